import PyProof.Rows.All
import Wide.All
import OpenK.AllK
import Wide.FinOn
import KE.KExcSuper
import HandS.Base
import HandS.Call
import HandS.List
import HandS.Exc
import HandS.ExcInit
import KE.KTryMore
import HandS.ForMost
import HandS.ExcField
import HandS.HeadHook1
import HandS.HeadHook2
import KE.KStateDown
import HandS.Defaults
import HandS.Head0
import HandS.Head1
import HandS.Head2
import HandS.HeadHook4
import HandS.HeadWalk
import HandS.HeadNt
import HandS.Property
import HandS.ClsMeth
import HandS.Wide
import HandS.Lambda
import HandS.WordsExc
import HandS.Style
import HandS.Text
import HandS.Iter
import KE.KRevSl
import HandS.Codes
import HandS.StrMore
import HandS.FStr
import PyProof.Rows.StrDigitsNeg
import PyProof.Rows.ReprOcc
import PyProof.Rows.StrMul
import PyProof.StrBlock2
import HandS.Walk
import HandS.DictTup
import HandS.DictComp
import HandS.Zip
import HandS.ListItems
import HandS.OwnEq
import HandS.Conv
import PyProof.Rows.TupDisplay
import KE.KEqDict
import KE.SortKeyHeap
import HandS.SortKw
import HandS.SlotsOwn
import HandS.Records
import HandS.TupLen
import HandS.Small
import HandS.Deep
import HandS.TupAny
import HandS.TupMul
import KE.GoesMore
import PyProof.EnumMake
import PyProof.Rows.Range3
import KE.DatumOrd
import KE.DataMinKey
import KE.DataCmp
import Lean
import HandS.IsInst
import HandS.Replace
import PySem.Challenge.RW_copytail_k07_values_at_points
set_option Elab.async false
set_option linter.all false
set_option maxRecDepth 100000
set_option maxHeartbeats 0
/-! An own error's __init__ that begins with super().__init__(e), over ValueError. -/
namespace CT
open PySem PySem.Spec PySem.Calls PyProof.Rows L2

section
open PySem.W
variable {prog : Program} {w : World} {A : Around} {E : Value → Shared → Prop} {h : Heap} {g : Array GenState} {d : Drawn} {t : Nat} {os : OsState}
variable {nm q : Str} {C N : Addr} {bs bm : List Value} {hdct : Bool} {sn : List Str} {sub : List Value} {ab : Bool} {col : Option Bool} {dd : Option Addr} {k0 k1 k2 k3 k5 : Option Value}
theorem call_mw {u e t0 : Addr} {rest : List Value} {Q : Value → Shared → Prop}
    (hC : h.get? C = some (excClassObj nm q C N bs bm hdct sn sub ab col dd k0 k1 k2 k3 k5 "ValueError.__new__")) (he : h.get? e = some (HandSPX.excO C t0)) (hu : h.get? u = some (kxs_mw "ValueError.__init__" e)) (hrest : rest.length ≤ sizeLine)
    (hq : ∀ h' t1, (∀ b o, b ≠ e → h.get? b = some o → h'.get? b = some o) → h'.get? e = some (HandSPX.excO C t1) → Q .none ⟨h', g, d, t, os⟩) :
    wpAny (model prog w) A (call (.ref u) rest) Q E ⟨h, g, d, t, os⟩ := by
  refine wpAny_call (codeAny_of_tree ?_)
  show wpAny _ A.in1 (callAny (.ref u) ⟨rest, []⟩) _ _ _
  simp only [callAny]
  refine wpAny_bind (wpAny_load hu ?_)
  simp only [kxs_mw, show (Value.type "method-wrapper" == Value.type "method" || Value.type "method-wrapper" == Value.type "builtin_function_or_method" || Value.type "method-wrapper" == Value.type "method-wrapper") = true by decide, if_true]
  refine W.KFB.if_so (by decide) ?_
  refine wpAny_bind (check_bound_init F.excBase_ValueError.toExcCallFacts hC he rfl ?_)
  refine wpAny_bind (wpAny_pure (wpAny_pure ?_))
  refine ⟨Code.quiet_builtin _ (by decide +kernel), codeAny_builtin F.excBase_ValueError.initEntry ?_⟩
  rw [Around.under_plainId F.excBase_ValueError.init.plain _]
  wp_walk
  refine hq _ h.objs.size (fun b o hb ho => ?_) ?_
  · rw [Heap.get?_update_other _ _ (Ne.symm hb)]
    exact Heap.get?_push_of_some _ ho
  · rw [Heap.get?_update_self _ (Heap.get?_push_of_some _ he) rfl]
    rfl
end

theorem callWith_mw {M : Model} {A : Around} {E : Value → Shared → Prop} {s : Shared} {i : String} {pos : Pos} {u x : Addr} {first : List Value} {env : Env} {e : Expr} {rest : List Expr} {Q : Value → Shared → Prop}
    (he : starEach (e :: rest) env = (false, eval e env) :: starEach rest env) (hpl : (backTo pos (starEach rest env)).any (·.1) = false)
    (h : wpAny M A (spliced (backTo pos (starEach (e :: rest) env))) (fun vs s₁ => PySem.W.KxsAt i u x s₁.heap ∧ wpAny M A (call (.ref u) (first ++ vs)) Q E s₁) E s) :
    wpAny M A (callWith pos (.ref u) first (backTo pos (starEach (e :: rest) env)) []) Q E s := by
  rw [he] at h ⊢
  refine PySem.W.kxs_callWith (i := i) (x := x) (by show (false || (backTo pos (starEach rest env)).any (·.1)) = false; rw [hpl]; rfl) ?_
  exact evalArgs_plain h

abbrev envS (qual : Str) (scope : Scope) (L f cda cc : Addr) : Env := PySem.W.ksEnv qual scope L f (.ref cda) cc
def cxS (CX : CXT) (P : Program) (w : World) (K : PySem.W.Frag) (mg : Str → Option Value) (base : Heap) (N : List Str) (qual : Str) (scope : Scope) (f cda cc : Addr) (A : Around) (outer : List Env) (s : Shared) (H : Hp) (E : XK) : Cx where
  prog := P
  w := w
  K := K
  mg := mg
  base := base
  A := A.deeper (envS qual scope s.heap.objs.size f cda cc)
  N := N
  s_0 := s
  H_0 := H
  env := envS qual scope s.heap.objs.size f cda cc
  outer := outer
  stack := envS qual scope s.heap.objs.size f cda cc :: outer
  ex := []
  calm := true
  fn := fun _ => false
  pn := []
  xe := fun e s' => wpAny (model P w) (A.deeper (envS qual scope s.heap.objs.size f cda cc)) (leaving (envS qual scope s.heap.objs.size f cda cc) e) (fun _ s'' => CX outer H s E e s'') (fun e' s'' => CX outer H s E e' s'') s'

/-- the names of such a def: its parameters, super, and the free __class__ -/
structure ScS (ps : List Str) (sc : Scope) : Prop where
  kind : sc.kind = .function
  co : sc.isCoroutine = false
  gen : sc.isGenerator = false
  nd : ps.Nodup
  par : ∀ x ∈ ps, sc.names.lookup x = some .local
  nocell : ∀ y ∈ sc.names, y.2 ≠ .cell
  free : ∀ y ∈ sc.names, y.2 = .free → y.1 = ("__class__" : Str)
  sup : sc.names.lookup ("super" : Str) = some .globalImplicit
  cls : sc.names.lookup ("__class__" : Str) = some .free

theorem lookup_zip_rev : ∀ {ps : List Str} {us : List Value} {i : Nat} {x : Str} {u : Value}, ps.Nodup → ps[i]? = some x → us[i]? = some u → (ps.zip us).reverse.lookup x = some u
  | [], _, _, _, _, _, h, _ => by simp at h
  | _ :: _, [], _, _, _, _, _, h => by simp at h
  | p :: ps, v :: us, 0, x, u, nd, h1, h2 => by
    simp at h1 h2
    subst h1; subst h2
    have hn : (ps.zip us).reverse.lookup p = none := by
      cases e : (ps.zip us).reverse.lookup p with
      | none => rfl
      | some z =>
        have m := PySem.mem_of_lookup e
        exact absurd (List.of_mem_zip (List.mem_reverse.mp m)).1 (List.nodup_cons.mp nd).1
    rw [List.zip_cons_cons, List.reverse_cons, List.lookup_append, hn]
    simp
  | p :: ps, v :: us, i + 1, x, u, nd, h1, h2 => by
    rw [List.zip_cons_cons, List.reverse_cons, List.lookup_append, lookup_zip_rev (i := i) (List.nodup_cons.mp nd).2 (by simpa using h1) (by simpa using h2)]
    rfl

theorem one_cell {cc c : Addr} {x : Str} (h : ([("__class__", cc)] : List (Str × Addr)).lookup x = some c) : x = ("__class__" : Str) ∧ c = cc := by
  have m := PySem.mem_of_lookup h
  simp at m
  exact m

theorem inv_startS {CX : CXT} {P : Program} {w : World} {K : PySem.W.Frag} {mg : Str → Option Value} {base : Heap} {ps : List Str} {qual : Str} {scope : Scope} {f cda cc : Addr} {A : Around} {outer : List Env} {s : Shared} {H : Hp} {E : XK} {us : List Value} {vs : List V} {h₁ : Heap} {tk : Nat}
    (S : ScS ps scope) (hd : A.handled = none) (e0 : Env0 P w K mg base A outer s H) (hl : vs.length = ps.length) (r : Vals vs us)
    (hns : h₁.Ns s.heap.objs.size (fun x => (ps.zip us).reverse.lookup x)) (kp : ∀ b o, s.heap.get? b = some o → h₁.get? b = some o) (hcc : ∃ o v, base.get? cc = some o ∧ o.data = .cell v) :
    Inv (cxS CX P w K mg base ps qual scope f cda cc A outer s H E) [] (L2.start ps vs) H { s with heap := h₁, toks := tk } := by
  have noA : ∀ b : Addr, b ∉ (cxS CX P w K mg base ps qual scope f cda cc A outer s H E).ex := fun b z => absurd (show b ∈ ([] : List Addr) from z) (by simp)
  obtain ⟨oc, vc, hc1, hc2⟩ := hcc
  have hfull : L2.start ps vs = vs.map some := by
    unfold L2.start
    rw [hl, Nat.sub_self]
    simp
  refine ⟨⟨e0.mod, S.kind, rfl, rfl, Nat.le_refl _, fun y z c h1 h2 => ?_, fun y hy => ?_, fun y c h _ => ?_, fun _ => hd, Around.frames_deeper e0.frames, .inr ⟨rfl, rfl⟩, fun b z => absurd z (noA b), e0.bs, e0.bsz, fun b _ _ => noA b, fun b z => absurd z (noA b), e0.funs, e0.frf⟩,
    rfl, e0.bare, Un.kept kp, ⟨_, hns, fun i y v h1 h2 h3 => ?_⟩, fun y c h => ?_, e0.hok.fresh (Nat.le_refl _), fun y c h => ?_, fun p hp => absurd (show p ∈ ([] : List (Addr × Obj)) from hp) (by simp), e0.hok.kept kp, ?_⟩
  · rw [(one_cell h1).1, (one_cell h2).1]
  · have hy : scope.names.lookup y = some .cell ∨ scope.names.lookup y = some .free := hy
    rcases hy with hy | hy
    · exact absurd rfl (S.nocell _ (PySem.mem_of_lookup hy))
    · have e := S.free _ (PySem.mem_of_lookup hy) rfl
      have e : y = ("__class__" : Str) := e
      subst e
      exact ⟨cc, rfl⟩
  · have h : false = true := h
    cases h
  · rw [hfull, List.getElem?_map] at h2
    obtain ⟨v', hv', e⟩ := Option.map_eq_some_iff.mp h2
    cases e
    obtain ⟨u, hu, rv⟩ := r.get hv'
    have hp : ps[i]? = some y := h1
    exact ⟨u, rv, .inl ⟨S.par y (List.mem_of_getElem? hp), lookup_zip_rev S.nd hp hu⟩⟩
  · obtain ⟨_, rfl⟩ := one_cell h
    exact ⟨vc, oc, kp _ _ (e0.bs _ _ hc1).1, hc2⟩
  · obtain ⟨_, rfl⟩ := one_cell h
    exact (e0.bs _ _ hc1).2
  · rw [hfull, List.length_map]
    exact hl

section
open PySem.W
variable {CX : CXT} {P : Program} {w : World} {K : PySem.W.Frag} {mg : Str → Option Value} {base : Heap} {k : Nat} {f C cc cda : Addr} {name qual : Str} {params : Arguments} {rest : List Stmt} {scope : Scope} {dV kV doc pm ct oc : Value} {an od : Option Addr}
  {osl : Array (Option Value)} {ps : List Str} {sp : Sp} {e : Expr} {p0 p1 p2 p3 p4 : Pos} {ar : Arg} {ccl cl : Value} {cdd cld : Option Addr} {ccs csl : Array (Option Value)} {vsc : Array Value} {file : Str} {tf : Tok}
abbrev bodyS (e : Expr) (rest : List Stmt) (p0 p1 p2 p3 p4 : Pos) : List Stmt := .Expr (.Call (.Attribute (.Call (.Name "super" p0) [] [] p1) "__init__" p2) [e] [] p3) p4 :: rest
/-- a def that begins with super().__init__(e), run upon a new error of the class at C -/
theorem fn_super (lk : K.lookup f = some ⟨oc, od, .func (ksFn name qual params (bodyS e rest p0 p1 p2 p3 p4) scope dV kV doc pm an (.ref cda) ct cc), osl⟩) (hcd : codeIn K (.ref cda) qual = true) (S : ScS ps scope)
    (hp : (params.posonlyargs ++ params.args).head? = some ar) (hps : ps[0]? = some ar.arg)
    (hcell : K.lookup cc = some ⟨cl, cld, .cell (some (.ref C)), csl⟩) (hcode : K.lookup cda = some ⟨ccl, cdd, .fields vsc, ccs⟩) (hvs : vsc[2]? = some (.str file tf)) (hfile : ((P.main.file : Str) == file) = true)
    (htop : (P.main.scope.names.lookup ("super" : Str)).isSome = false) (msup : mg "super" = none) (T : OexC K C) (hop : nsIn K cStatics "thirdparty.any" = some none)
    (hm : ks_superIn K C C "__init__" = some (some (.builtin "ValueError.__init__"))) (hB : subIn K (.ref C) (.type "ValueError") = some true)
    (len : ∀ vs H Q E, sp vs H Q E → vs.length = ps.length)
    (hstar : ∀ env : Env, starEach [e] env = (false, eval e env) :: starEach [] env)
    (hsw : ∀ env : Env, swapsWith (.Call (.Attribute (.Call (.Name "super" p0) [] [] p1) "__init__" p2) [e] [] p3) none p4.line env = pure false)
    (hev : ∀ env : Env, ∃ pl : Sem Bool, eval (.Call (.Attribute (.Call (.Name "super" p0) [] [] p1) "__init__" p2) [e] [] p3) env = (do
      let ov ← attributeBase (.Call (.Name "super" p0) [] [] p1) "__init__" env (eval (.Call (.Name "super" p0) [] [] p1) env)
      standAt p2.atName
      let (f, first) ← holding [ov] (getMethod ov "__init__" pl)
      callWith p3 f first (backTo p3 (starEach [e] env)) []))
    (hbody : ∀ (A : Around) (outer : List Env) (s : Shared) (H : Hp) (vs : List V) (Q : VK) (E : XK), Room k (A.deeper (envS qual scope s.heap.objs.size f cda cc)) → sp vs H Q E →
      ∃ (a : Addr) (ta : TA), vs[0]? = some (.ref a) ∧ H a = some (exo a C none) ∧ PA (cxS CX P w K mg base ps qual scope f cda cc A outer s H E) [e] ta ∧
        ta (L2.start ps vs) H fun ws H1 => ws.length ≤ 1000 ∧ H1 a = some (exo a C none) ∧ ∃ t, PSs (cxS CX P w K mg base ps qual scope f cda cc A outer s H E) rest t ∧ t { nx := fun _ H' => Q .non H', rt := Q } (L2.start ps vs) H1) :
    FnOk P w K mg base CX (k + 1) f (ksFn name qual params (bodyS e rest p0 p1 p2 p3 p4) scope dV kV doc pm an (.ref cda) ct cc) ps sp := by
  refine ⟨len, fun A outer s H args us vs Q E hr e0 hb r hsp => ?_⟩
  have hl := len _ _ _ _ hsp
  have KX : K.In s.heap := e0.mod.kin.keeps fun b o e => (e0.bs b o e).1
  have lim : s.heap.NoLimit := e0.mod.nolimit.keeps fun b o e => (e0.bs b o e).1
  obtain ⟨a, ta, hv0, ea, ha, hq⟩ := hbody A outer s H vs Q E (hr.deeper _) hsp
  obtain ⟨u0, hu0, ru0⟩ := r.get hv0
  obtain rfl : u0 = Value.ref a := ru0
  refine ks_codeAny_call_defAt (fd := ksFn name qual params (bodyS e rest p0 p1 p2 p3 p4) scope dV kV doc pm an (.ref cda) ct cc) (body := bodyS e rest p0 p1 p2 p3 p4) (binds := ps.zip us) hr.depth (KX _ _ lk) rfl lim (codeRec_of KX hcd) rfl hb S.nocell
    (fun y hy => S.par y.1 (List.of_mem_zip hy).1) (fun h₁ hns hk₁ => ?_) S.co S.gen S.kind
  have I := inv_startS (CX := CX) (qual := qual) (f := f) (cda := cda) (cc := cc) (E := E) (tk := s.toks + (ps.zip us).length) S hr.hd e0 hl r hns hk₁ ⟨_, _, e0.mod.kin _ _ hcell, rfl⟩
  show _root_.PySem.wpAt (model P w) (A.deeper (envS qual scope s.heap.objs.size f cda cc)) (.func (bodyS e rest p0 p1 p2 p3 p4) (envS qual scope s.heap.objs.size f cda cc)) (execs (bodyS e rest p0 p1 p2 p3 p4) (envS qual scope s.heap.objs.size f cda cc)) _ _ _
  obtain ⟨X, hX⟩ : ∃ X, X = cxS CX P w K mg base ps qual scope f cda cc A outer s H E := ⟨_, rfl⟩
  have KX1 : K.In h₁ := KX.keeps hk₁
  obtain ⟨nm, q, N, bs, bm, sn, sub, ab, col, dd, k0, k1, k2, k3, k5, hC, hbm⟩ := id T.cls
  have hcl : clsIn K C = some { name := nm, bases := bs, mro := .ref C :: bm, ns := N, qualname := q, hasDict := true, slotNames := sn, subclasses := sub, abstract := ab, collection := col, hasDel := false } := by unfold clsIn; rw [hC] <;> rfl
  obtain ⟨t1, hxo⟩ := exo_at I.hok ea
  have hxC : a ≠ C := fun z => by
    have y := KX1 _ _ hC
    rw [← z, hxo] at y
    cases y
  obtain ⟨pl, hpl⟩ := hev (envS qual scope s.heap.objs.size f cda cc)
  refine ks_wpAt_execs_cons (ks_wpAt_Expr_any (ks_wpAt_MethodCall (pl := pl) (o := .Call (.Name "super" p0) [] [] p1) (name := "__init__") ?_ hpl) I.quiet (hsw _))
  refine ks_wpAt_super_base (env := envS qual scope s.heap.objs.size f cda cc) S.sup S.cls (by decide) rfl (KX1 _ _ lk) rfl hp rfl (KX1 _ _ hcode) rfl hvs hfile htop ?_
  obtain ⟨mb, hb1, hb2⟩ := e0.mod.blt
  have bk : ∀ b o, base.get? b = some o → h₁.get? b = some o := fun b o z => hk₁ b o (e0.bs b o z).1
  refine ks_loadName_global S.kind S.sup (loadGlobal_builtin (env := envS qual scope s.heap.objs.size f cda cc) (e0.mod.glob.keeps bk) msup (hb1.keeps bk) ((hb2 _ (by decide)).trans (by decide +kernel : bootBuiltins "super" = some (.type "super"))) ⟨rfl, ?_⟩)
  refine wpAny_loadName_free S.kind S.cls rfl ⟨_, KX1 _ _ hcell, rfl⟩ ?_
  refine wpAny_loadName_local S.kind (S.par _ (List.mem_of_getElem? hps)) hns (lookup_zip_rev S.nd hps hu0) ?_
  refine ks_wpAny_isType_cls (KX1 _ _ hC) rfl ⟨rfl, ?_⟩
  refine ks_wpAny_call_super (KX1 _ _ hC) rfl hxo rfl (fun c z => by cases z) (looks_mroIn KX1 (by unfold mroIn; rw [hcl]; simp)) (fun h2 eso k2' => ?_)
  have I2 := I.kept (h' := h2) (t' := s.toks + (ps.zip us).length) k2'
  have KX2 : K.In h2 := KX1.keeps k2'
  have hx2 : h2.get? a = some (HandSPX.excO C t1) := k2' _ _ hxo
  have hI2 : Looks (model P w) h2 (isInstance (.ref a) (.type "ValueError")) true := InstAt.type (ox := HandSPX.excO C t1) (od := none) ⟨hx2, rfl, rfl, trivial⟩ |>.andThen (looks_subIn KX2 hB)
  have hm' : alongIn K "__init__" (((.ref C :: bm : List Value).dropWhile (· != .ref C)).drop 1) = some (some (.builtin "ValueError.__init__")) := by
    have z := hm
    unfold ks_superIn at z
    rw [hcl] at z
    exact z
  refine kxs_getMethod kxs_ValueError eso (looks_opaque KX2 hop) (l₀ := .ref C :: bm) ((looks_clsIn KX2 hcl).andThen .now) rfl KX2 hm' hI2 hxC (by decide) ?_
  have k3' : ∀ b o, h2.get? b = some o → (h2.push (kxs_mw "ValueError.__init__" a)).get? b = some o := fun b o z => Heap.get?_push_of_some _ z
  have I3 := I2.kept (h' := h2.push (kxs_mw "ValueError.__init__" a)) (t' := s.toks + (ps.zip us).length + 1) k3'
  have hu3 : (h2.push (kxs_mw "ValueError.__init__" a)).get? h2.objs.size = some (kxs_mw "ValueError.__init__" a) := Heap.get?_push_size _ rfl
  have hL2 := I2.lt
  have I4 := I3.pins_of (pins' := [(h2.objs.size, kxs_mw "ValueError.__init__" a)]) fun p hp => by
    have e : p = (h2.objs.size, kxs_mw "ValueError.__init__" a) := by simpa using hp
    subst e
    exact ⟨hu3, I2.hok.fresh (Nat.le_refl _), Nat.ne_of_gt hL2, I2.nofs (Nat.le_refl _), fun v z => by cases z⟩
  refine callWith_mw (i := "ValueError.__init__") (x := a) (hstar _) rfl ?_
  refine thn (ha.run p3 _ _ _ _ _ I4 hq) fun ws s4 hw => ?_
  obtain ⟨zs, H4, I5, r4, hz4, ea4, t, ht, hq4⟩ := hw
  have hu4 := (I5.pin (h2.objs.size, kxs_mw "ValueError.__init__" a) (List.mem_append_right _ (by simp))).1
  refine ⟨hu4, ?_⟩
  obtain ⟨t4, ho4⟩ := exo_at I5.hok ea4
  have KX4 := I5.kIn
  obtain ⟨hp4, g4, d4, tk4, os4⟩ := s4
  have hws : ws.length ≤ sizeLine := by
    rw [← r4.length, sizeLine_eq]
    omega
  refine call_mw (KX4 _ _ hC) ho4 hu4 hws fun h' t5 k5 hx5 => ?_
  have J := I5.write (t' := tk4) (x := a) (e := a) (o := exo a C none) (by rw [ea4]; exact True.intro) (.inl rfl) k5 ⟨_, hx5⟩ (exo_ok hx5)
  have eu : upd H4 a (exo a C none) = H4 := by
    funext b
    by_cases hb : b = a
    · rw [hb, upd_same, ea4]
    · rw [upd_ne hb]
  rw [eu] at J
  have J0 := J.pins_of (pins' := []) fun p hp => absurd hp (by simp)
  refine wpAt_of_wpAny (wpAny_mono (ht.run [] _ _ _ _ J0 hq4) (fun fl s' hs => ?_) fun e s' hs => hs)
  have fin : ∀ {σ' : L2.St} {H' : Hp} {v : V} {u : Value}, Inv (cxS CX P w K mg base ps qual scope f cda cc A outer s H E) [] σ' H' s' → RelV v u → Q v H' → CE outer P w H s Q u s' :=
    fun {σ' H' v u} J rv q => ⟨v, H', J.os, J.bare, J.base, J.hok, rv, q⟩
  cases fl with
  | ret u =>
    obtain ⟨v, σ', H', J, rv, q⟩ := hs
    exact fin J rv q
  | next =>
    obtain ⟨σ', H', J, q⟩ := hs
    exact fin (v := V.non) (u := Value.none) J rfl q
  | brk =>
    obtain ⟨_, _, _, q⟩ := hs
    exact False.elim q
  | cont =>
    obtain ⟨_, _, _, q⟩ := hs
    exact False.elim q
end
end CT

/-! try with several clauses «except X as n» and «except (X, Y, ..) as n». -/
namespace CT
open PySem PySem.Spec PySem.Calls PyProof.Rows L2

/-! ### a tuple of classes, any length -/
section
open PySem.W
variable {M : Model} {K : Frag}
theorem loop1 {A : Around} {E : Value → Shared → Prop} {s : Shared} {cls : Value} (X : K.In s.heap) : ∀ {cs : List Value} {b : Bool}, exmAny K cls cs = some b → ∀ {Q : PUnit → Shared → Prop}, Q PUnit.unit s →
    wpAny M A (forIn cs PUnit.unit fun c (__s : PUnit) => do
      let __do_lift ← isExcClass c
      if (!__do_lift) = true then do
          rule "try.except-non-exception-class"
          raiseErrorWords "TypeError" "catching classes that do not inherit from BaseException is not allowed"
          pure (ForInStep.yield PUnit.unit)
        else pure (ForInStep.yield PUnit.unit)) Q E s
  | [], _, _, _, q => wpAny_pure q
  | c :: r, b, hx, Q, q => by
    obtain ⟨b1, d1, x1, y1, _⟩ := exmAny_cons hx
    obtain ⟨e1, _⟩ := exm_cls (M := M) X x1
    rw [List.forIn_cons]
    refine wpAny_bind (wpAny_bind (e1.here ?_))
    rw [if_neg (show ¬ ((!true) = true) from Bool.false_ne_true)]
    exact wpAny_pure (loop1 X y1 q)
theorem loop2 {A : Around} {E : Value → Shared → Prop} {s : Shared} {cls : Value} (X : K.In s.heap) : ∀ {cs : List Value} {b : Bool}, exmAny K cls cs = some b → ∀ {Q : Option Bool × Unit → Shared → Prop}, Q (if b then some true else none, ()) s →
    wpAny M A (forIn cs ((none, ()) : Option Bool × Unit) fun c (__s : Option Bool × Unit) => do
      let __do_lift ← isSubtype cls c
      if __do_lift = true then pure (ForInStep.done (some true, ())) else pure (ForInStep.yield (none, ()))) Q E s
  | [], b, hx, Q, q => by
    have e : some false = some b := hx
    cases e
    exact wpAny_pure q
  | c :: r, b, hx, Q, q => by
    obtain ⟨b1, d1, x1, y1, z1⟩ := exmAny_cons hx
    obtain ⟨_, S1⟩ := exm_cls (M := M) X x1
    rw [List.forIn_cons]
    refine wpAny_bind (wpAny_bind (S1.here ?_))
    cases b1 with
    | true =>
      rw [if_pos rfl]
      subst z1
      exact wpAny_pure (wpAny_pure q)
    | false =>
      rw [if_neg Bool.false_ne_true]
      have z2 : b = d1 := by rw [z1]; rfl
      subst z2
      exact wpAny_pure (loop2 X y1 q)
theorem exm_tupN {cs : List Value} {cls : Value} {tp e : Addr} {b : Bool} {h : Heap} (X : K.In h) (LT : Looks M h (typeOf (.ref e)) cls) (hp : h.get? tp = some { cls := .type "tuple", data := .seq cs.toArray }) (hx : exmAny K cls cs = some b) :
    Looks M h (excMatches (.ref e) (.ref tp)) b := by
  intro A Q E s k₀ q
  obtain ⟨hh, g, d, tk, os⟩ := s
  have k : ∀ b o, h.get? b = some o → hh.get? b = some o := k₀
  have LT0 : Looks M h (isInstance (.ref tp) (.type "tuple")) true := ((Looks.ld hp).andThen .now).andThen (Looks.of_pure isSubtype_tuple_tuple)
  have LT := LT.keeps k
  have LT0 := LT0.keeps k
  have X' := X.keeps k
  have hp' := k _ _ hp
  unfold excMatches
  refine wpAny_bind (LT0.at ?_)
  dsimp only
  rw [if_pos rfl]
  first
    | refine wpAny_bind (wpAny_seqItems hp' rfl ?_)
    | refine wpAny_bind (wpAny_bind (wpAny_seqItems hp' rfl (wpAny_pure ?_)))
  dsimp only [Option.getD_some, Option.getD]
  refine wpAny_bind (wpAny_pure ?_)
  refine wpAny_bind (loop1 (s := ⟨hh, g, d, tk, os⟩) X' hx ?_)
  refine wpAny_bind (LT.at ?_)
  refine wpAny_bind (loop2 (s := ⟨hh, g, d, tk, os⟩) X' hx ?_)
  cases b
  · exact wpAny_pure q
  · exact wpAny_pure q
end
/-! ### the clauses -/
inductive NamesL (X : Cx) : List Expr → List Value → Prop
  | nil : NamesL X [] []
  | cons {x : Str} {c : Value} {np : Pos} {es : List Expr} {cs : List Value} (h : Names X x c) (r : NamesL X es cs) : NamesL X (.Name x np :: es) (c :: cs)
inductive ClTest (X : Cx) : Expr → List Value → Prop
  | one {x : Str} {c : Value} {np : Pos} (h : Names X x c) : ClTest X (.Name x np) [c]
  | tup {es : List Expr} {cs : List Value} {k : Nat} {tp : Pos} (h : NamesL X es cs) (hl : cs.length ≤ 100) : ClTest X (.Tuple es k tp) cs
section
variable {X : Cx} {pins : List (Addr × Obj)} {σ : L2.St} {H : Hp} {s : Shared}
theorem names_eval {x : Str} {c : Value} {np : Pos} {Q E : Value → Shared → Prop} (hc : Names X x c) (S : Inv X pins σ H s) (q : Q c s) : wpAny (model X.prog X.w) X.A (eval (.Name x np) X.env) Q E s := by
  obtain ⟨hg, hdbg, hm | ⟨hm, hv, hnn⟩⟩ := hc
  · exact ld_glob S hg hm q hdbg
  · exact ld_blt S hg hm hv q hnn hdbg
theorem namesL_eval {E : Value → Shared → Prop} {pos : Pos} : ∀ {es : List Expr} {cs : List Value}, NamesL X es cs → Inv X pins σ H s → ∀ {Q : List Value → Shared → Prop}, Q cs s → wpAny (model X.prog X.w) X.A (spliced (backTo pos (starEach es X.env))) Q E s
  | _, _, .nil, _, _, q => wpAny_items_nil q
  | _, _, .cons h r, S, Q, q => wpAny_items_cons (names_eval h S (namesL_eval r S q))
theorem NamesL.suite {a : Addr} {pn : List (Addr × Obj)} : ∀ {es : List Expr} {cs : List Value}, NamesL X es cs → NamesL (X.suite a pn) es cs
  | _, _, .nil => .nil
  | _, _, .cons h r => .cons h r.suite
theorem cl_test {te : Expr} {cs : List Value} {a : Addr} {pn : List (Addr × Obj)} {cls : Value} {b : Bool} (hcl : ClTest X te cs) (S : Inv (X.suite a pn) pins σ H s) (LT : PySem.W.Looks (model X.prog X.w) s.heap (typeOf (.ref a)) cls)
    (hx : PySem.W.exmAny X.K cls cs = some b) {Q : Bool → Shared → Prop} {E : Value → Shared → Prop} (q : ∀ h', (∀ b o, s.heap.get? b = some o → h'.get? b = some o) → Q b { s with heap := h' }) :
    wpAny (model X.prog X.w) (X.A.mark (some (.ref a))) (eval te X.env) (fun c s₁ => wpAny (model X.prog X.w) (X.A.mark (some (.ref a))) (excMatches (.ref a) c) Q E s₁) E s := by
  have KX : X.K.In s.heap := S.kIn
  cases hcl with
  | one h =>
    obtain ⟨b1, d1, x1, y1, z1⟩ := PySem.W.exmAny_cons hx
    have e1 : some false = some d1 := y1
    cases e1
    rw [Bool.or_false] at z1
    subst z1
    exact names_eval (X := X.suite a pn) h S ((PySem.W.exm_one KX LT x1).here (q s.heap fun _ _ z => z))
  | tup h hl =>
    refine wpAny_Tuple (namesL_eval (X := X.suite a pn) h.suite S ⟨Nat.le_trans hl (by decide), ?_⟩)
    have kp : ∀ q o, s.heap.get? q = some o → (s.heap.push { cls := .type "tuple", data := .seq cs.toArray }).get? q = some o := fun _ _ z => Heap.get?_push_of_some _ z
    exact (exm_tupN (KX.keeps kp) (LT.keeps kp) (Heap.get?_push_size s.heap rfl) hx).here (q _ kp)
theorem flying_keep {base h h' : Heap} {l : List Env} {e : Addr} {Z : Obj → Prop} (fl : HandSPX.FlyingZ base l e Z h) (k : ∀ b o, h.get? b = some o → h'.get? b = some o) : HandSPX.FlyingZ base l e Z h' := by
  obtain ⟨k1, k2, k3, oe, vs, T, oT, ts, he, hz, hd, h1, h2, h3, h4, h5, h6⟩ := fl
  exact ⟨fun b o z => k b o (k1 b o z), k2, Heap.FunFrames.of_keeps (fun b o e _ => ⟨o, k b o e, rfl⟩) k3, oe, vs, T, oT, ts, k _ _ he, hz, hd, h1, h2, h3, k _ _ h4, h5, h6⟩
end
/-- what the clauses wish of an exception of the body, one after the other; slot i holds the error within a suite -/
def wManyAs (K : PySem.W.Frag) (i : Nat) (Wout : WX) (D : Ends) : List (List Value × (Addr → Value → Option Addr → TS)) → WX
  | [] => Wout
  | (cs, ts) :: r => fun cls d σ H => ∃ b, PySem.W.exmAny K cls cs = some b ∧ (b = true → ∀ a, H a = none → ts a cls d { nx := fun σ' H' => D.nx (σ'.set i none) H', rt := D.rt, bk := fun σ' H' => D.bk (σ'.set i none) H', ct := fun σ' H' => D.ct (σ'.set i none) H' } (σ.set i (some (.ref a))) H) ∧
      (b = false → wManyAs K i Wout D r cls d σ H)
inductive HdsAs (X : Cx) (n : Str) : List ExceptHandler → List (List Value × (Addr → Value → Option Addr → TS)) → Prop
  | nil : HdsAs X n [] []
  | cons {te : Expr} {cs : List Value} {ts : Addr → Value → Option Addr → TS} {b₀ : Stmt} {suite : List Stmt} {pos' : Pos} {hds : List ExceptHandler} {l : List (List Value × (Addr → Value → Option Addr → TS))} (hc : ClTest X te cs)
      (hsu : ∀ (a : Addr) (oe : Obj) (cls : Value) (d : Option Addr) (pn : List (Addr × Obj)), Zc cls d oe → (∃ vs, oe.data = .fields vs) → PSs (X.suite a ((a, oe) :: pn)) (b₀ :: suite) (ts a cls d)) (r : HdsAs X n hds l) :
      HdsAs X n (.ExceptHandler (some te) (some n) (b₀ :: suite) pos' :: hds) ((cs, ts) :: l)
section
variable {X : Cx} {body : List Stmt} {h₀ : ExceptHandler} {hds : List ExceptHandler} {l : List (List Value × (Addr → Value → Option Addr → TS))} {pos : Pos} {tb : WX → TS} {Wout : WX} {n : Str} {i : Nat}
theorem ps_try_manyAs (hs : X.stack = X.env :: X.outer) (hf : X.env.frame = some X.env.locals) (hN : X.N.Nodup) (hi : X.N[i]? = some n) (hln : X.env.kindOf n = some .local) (tk : Takes X Wout)
    (hb : ∀ (W : WX) (pn : List (Addr × Obj)) (xe : Value → Shared → Prop), Takes (X.tr pn xe) W → PassesOwn (model X.prog X.w) X.A X.env xe → PSs (X.tr pn xe) body (tb W))
    (hh : HdsAs X n (h₀ :: hds) l) : PS X (.Try body (h₀ :: hds) [] [] pos) (fun D σ H => tb (wManyAs X.K i Wout D l) D σ H) := by
  refine ⟨fun pins s σ H D I h => ?_⟩
  have ok := I.ok
  have hfr : X.A.frames = some (X.env :: X.outer) := by rw [ok.frames, hs]
  have hloc : Loc X.env.scope n := .inl hln
  refine wpAny_Try_except ?_
  refine wpAny_mono ((hb (wManyAs X.K i Wout D l) (X.pn ++ pins) (fun e s₁ => wpAny (model X.prog X.w) X.A (noteFrame e X.env) (fun _ s₂ => wpAny (model X.prog X.w) X.A (setFlight e none) (fun _ s₃ =>
    wpAny (model X.prog X.w) X.A (handleBy e X.env (h₀ :: hds)) (SP X pins D) X.xe s₃) X.xe s₂) X.xe s₁) (fun u s' xx => ?_) PassesOwn.looking).run [] s σ H D (I.toTry _) h) (fun f s1 hsp => ?_) (fun e s1 he => he)
  · obtain ⟨a, B, sI, pins', σ', H', cls, d, rfl, J', nb, up, sky, na, os, ag, w⟩ := xx
    have J : Inv X pins σ' H' sI := J'.ofTry ok
    have sky' : Sky B (X.env :: X.outer) a (Zc cls d) X.env.locals s'.heap := by rw [← hs]; exact sky
    show wpAny (model X.prog X.w) X.A (noteFrame (.ref a) X.env) _ _ _
    refine Sky.land Zc.steady hfr hf sky' fun h3 fl3 up3 => ?_
    have notFr : ∀ {h : Heap} {o : Obj} {vs : Array Value}, h.FunFrames B (X.env :: X.outer) → h.get? a = some o → o.data = .fields vs → a ∉ frs (X.env :: X.outer) := fun {h o vs} ff e dd hm => by
      obtain ⟨_, o', e', hnf⟩ := ff.mem hm
      rw [e] at e'; cases e'
      exact hnf _ dd
    obtain ⟨oe3, vs3, he3, hz3, hd3⟩ := fl3.there
    have nfr := notFr fl3.2.2.1 he3 hd3
    have nL : a ≠ X.env.locals := fun z => nfr (List.mem_filterMap.mpr ⟨X.env, List.mem_cons_self, by rw [hf, z]⟩)
    have nF : a ∉ X.fs := fun hm => by
      obtain ⟨e, he, q⟩ := List.mem_filterMap.mp hm
      exact nfr (List.mem_filterMap.mpr ⟨e, List.mem_cons_of_mem _ he, q⟩)
    have go : ∀ {hds' : List ExceptHandler} {l' : List (List Value × (Addr → Value → Option Addr → TS))}, HdsAs X n hds' l' → wManyAs X.K i Wout D l' cls d σ' H' → ∀ h5 : Heap, HandSPX.FlyingZ B (X.env :: X.outer) a (Zc cls d) h5 → sI.heap.UpToSlots h5 →
        wpAny (model X.prog X.w) X.A (handleBy (.ref a) X.env hds') (SP X pins D) X.xe { s' with heap := h5 } := by
      intro hds' l' hk
      induction hk with
      | nil =>
        intro w h5 fl5 up5
        refine wpAny_handleBy_nil ?_
        obtain ⟨k1, k2, k3, oe, vs, T, oT, ts', he, hz, hd, h1, hr⟩ := id fl5
        unfold PySem.passOn
        refine wpAny_bind (wpAny_field he hd h1 ?_)
        rw [if_neg (show ¬ ((Value.ref T == Value.none) = true) from by simp)]
        have fin : wpAny (model X.prog X.w) X.A (setFlight (.ref a) X.env.frame) (fun _ s4 => wpAny (model X.prog X.w) X.A (throw (.ref a) : Sem Flow) (SP X pins D) X.xe s4) X.xe { s' with heap := h5 } := by
          rw [hf]
          refine HandSPX.setFlight_upZ fl5 fun h4 hh4 up4 => wpAny_throw (tk _ _ ?_)
          exact ⟨a, B, sI, pins, σ', H', cls, d, rfl, J, nb, up5.trans up4, .inr (.inr (by rw [hs]; exact hh4)), na, os, ag, w⟩
        first
          | exact wpAny_bind (wpAny_pure (wpAny_bind fin))
          | exact wpAny_bind fin
      | @cons te cs ts b₀ suite pos' hds2 l2 hc hsu r ih =>
        intro w h5 fl5 up5
        obtain ⟨b, hb1, hyes, hno⟩ := w
        obtain ⟨oe5, vs5, he5, hz5, hd5⟩ := fl5.there
        have J5 : Inv X pins σ' H' { s' with heap := h5 } := J.landed nb fl5.1 up5 os ag
        have S5 := J5.suite he5 hd5 na nL nF
        refine wpAny_handleBy_cons (codeAny_handlers_test ?_) (by intro q; cases q)
        have LT : PySem.W.Looks (model X.prog X.w) h5 (typeOf (.ref a)) cls := fun A Q E s k q => wpAny_typeOf_ref (k _ _ he5) (by rw [hz5.1]; exact q)
        refine cl_test hc S5 LT hb1 fun h6 k6 => ?_
        have fl6 := flying_keep fl5 k6
        have up6 : sI.heap.UpToSlots h6 := up5.trans (Heap.UpToSlots.of_keeps k6)
        cases b with
        | true =>
          refine codeAny_handlers_suite_as ?_
          refine HandSPX.lands_againZ fl6 fun h4 fl4 up4 => ?_
          have J4 : Inv X pins σ' H' { s' with heap := h4 } := J.landed nb fl4.1 (up6.trans up4) os ag
          obtain ⟨oe4, vs4, he4, hz4, hd4⟩ := fl4.there
          have S4 := J4.suite he4 hd4 na nL nF
          refine store_ok (X := X.suite a ((a, oe4) :: (X.pn ++ pins))) (v := .ref a) S4 hN hi hloc rfl (fun s5 S5 => ?_) (.inr hln)
          refine wpAny_mono ((hsu a oe4 cls d (X.pn ++ pins) hz4 ⟨_, hd4⟩).run [] s5 _ H' _ S5 (hyes rfl a na)) (fun f s6 hsp => ?_) (fun _ _ z => False.elim z)
          have end_ : ∀ {σ6 : L2.St} {H6 : Hp} {Q : Shared → Prop}, Inv (X.suite a ((a, oe4) :: (X.pn ++ pins))) [] σ6 H6 s6 → (∀ s7, Inv X pins (σ6.set i none) H6 s7 → Q s7) →
              wpAny (model X.prog X.w) X.A (do bindName X.env n .none; unbindBehindTheSuite X.env n pos') (fun _ s7 => Q s7) X.xe s6 := fun {σ6 H6 Q} S6 hq => gone_ok (S6.unsuite ok) hN hi hln hq
          cases f with
          | next =>
            obtain ⟨σ6, H6, S6, q6⟩ := hsp
            exact end_ S6 fun s7 J7 => ⟨_, _, J7, q6⟩
          | brk =>
            obtain ⟨σ6, H6, S6, q6⟩ := hsp
            exact end_ S6 fun s7 J7 => ⟨_, _, J7, q6⟩
          | cont =>
            obtain ⟨σ6, H6, S6, q6⟩ := hsp
            exact end_ S6 fun s7 J7 => ⟨_, _, J7, q6⟩
          | ret u =>
            obtain ⟨v6, σ6, H6, S6, r6, q6⟩ := hsp
            exact end_ S6 fun s7 J7 => ⟨_, _, _, J7, r6, q6⟩
        | false =>
          show wpAny _ X.A (handleBy (.ref a) X.env hds2) _ _ _
          exact ih (hno rfl) h6 fl6 up6
    exact go hh w h3 fl3 (up.trans up3)
  · cases f with
    | next =>
      obtain ⟨σ', H', J', q⟩ := hsp
      exact wpAny_execs_nil ⟨σ', H', J'.ofTry ok, q⟩
    | brk =>
      obtain ⟨σ', H', J', q⟩ := hsp
      exact ⟨σ', H', J'.ofTry ok, q⟩
    | cont =>
      obtain ⟨σ', H', J', q⟩ := hsp
      exact ⟨σ', H', J'.ofTry ok, q⟩
    | ret u =>
      obtain ⟨v, σ', H', J', r, q⟩ := hsp
      exact ⟨v, σ', H', J'.ofTry ok, r, q⟩
end
end CT

/-! The package's error classes: facts, making, raising. -/
namespace CT
open PySem PySem.Spec PySem.Calls PyProof.Rows L2 He

/-! ### class facts by a Bool -/
def oexB (K : PySem.W.Frag) (C : Addr) : Bool := (match K.lookup C with
  | some ⟨.type t, _, .cls cd, sl⟩ => (match cd.mro, sl.toList with
    | .ref C' :: bm, [_, _, _, _, some (.builtin n), _] => decide (t = "type") && (decide (C' = C) && (decide (n = "ValueError.__new__") && (!cd.hasDel && (cd.hasDict && PySem.HandSPX.refsVE bm))))
    | _, _ => false)
  | _ => false) && (eqO (PySem.W.findIn K (.ref C) "__setattr__") (some (some (.builtin "object.__setattr__"))) && (decide (PySem.W.subIn K (.ref C) (.type "BaseException") = some true) &&
    (decide (PySem.W.typeIn K (.ref C) = some (.type "type")) && PySem.W.keepIn K (.ref C))))
theorem oexB_ok {K : PySem.W.Frag} {C : Addr} (h : oexB K C = true) : OexC K C := by
  obtain ⟨h1, h⟩ := ba h
  obtain ⟨h2, h⟩ := ba h
  obtain ⟨h3, h⟩ := ba h
  obtain ⟨h4, h5⟩ := ba h
  refine ⟨?_, eqO_ok h2, of_decide_eq_true h3, of_decide_eq_true h4, h5⟩
  split at h1
  · rename_i t dd cd sl ho
    split at h1
    · rename_i C' bm k0 k1 k2 k3 n k5 hm hs
      simp only [Bool.and_eq_true, decide_eq_true_eq, Bool.not_eq_true'] at h1
      obtain ⟨rfl, rfl, rfl, hdel, hdict, hr⟩ := h1
      obtain ⟨nm, bs, mro, ns, qn, hd, sn, sub, ab, col, del⟩ := cd
      dsimp only at hm hdel hdict
      subst hm hdel hdict
      have hsl : sl = #[k0, k1, k2, k3, some (.builtin "ValueError.__new__"), k5] := by
        obtain ⟨l⟩ := sl
        simp only at hs
        rw [hs]
      subst hsl
      exact ⟨nm, qn, ns, bs, bm, sn, sub, ab, col, dd, k0, k1, k2, k3, k5, ho, hr⟩
    · cases h1
  · cases h1
def noDfl : Value → Bool
  | .none => true
  | _ => false
theorem noDfl_ok {v : Value} (h : noDfl v = true) : v = .none := by
  cases v with
  | none => rfl
  | _ => cases h
/-- the cell of __class__ of the def at f holds C, its code object knows the text -/
def closB (K : PySem.W.Frag) (f C : Addr) (file : Str) : Bool := match K.lookup f with
  | some ⟨_, _, .func fd, _⟩ => (match fd.closure, fd.code with
    | [(_, cc)], .ref cda => (match K.lookup cc with
      | some ⟨_, _, .cell (some (.ref C')), _⟩ => decide (C' = C)
      | _ => false) && ((match K.lookup cda with
      | some ⟨_, _, .fields vs, _⟩ => (match (vs[2]? : Option Value) with
        | some (.str z _) => decide (z = file)
        | _ => false)
      | _ => false) && (PySem.W.codeIn K (.ref cda) fd.qualname && noDfl fd.defaults))
    | _, _ => false)
  | _ => false
/-- a class of errors with its own __init__, x the attribute it stores besides its tag (none: no parameter) -/
def errB (K : PySem.W.Frag) (n : Str) (x : Option Str) (file : Str) : Bool := oexB K (ga K n) && (xfB K (ga K n) && (eqO (PySem.W.findIn K (.ref (ga K n)) "__init__") (some (some (.ref (ma K (ga K n) "__init__")))) &&
  (decide (PySem.W.typeIn K (.ref (ma K (ga K n) "__init__")) = some (.type "function")) && (eqO (PySem.W.ks_superIn K (ga K n) (ga K n) "__init__") (some (some (.builtin "ValueError.__init__"))) &&
  (decide (PySem.W.subIn K (.ref (ga K n)) (.type "ValueError") = some true) && (eqO (PySem.W.findIn K (.ref (ga K n)) "tag") (some none) && ((match x with
    | some x => eqO (PySem.W.findIn K (.ref (ga K n)) x) (some none)
    | none => true) && (closB K (ma K (ga K n) "__init__") (ga K n) file && eqO (PySem.W.nsIn K cStatics "thirdparty.any") (some none)))))))))

structure ErrC (K : PySem.W.Frag) (n : Str) (x : Option Str) (file : Str) : Prop where
  o : OexC K (ga K n)
  xf : XfC K (ga K n)
  init : PySem.W.findIn K (.ref (ga K n)) "__init__" = some (some (.ref (ma K (ga K n) "__init__")))
  ty : PySem.W.typeIn K (.ref (ma K (ga K n) "__init__")) = some (.type "function")
  sup : PySem.W.ks_superIn K (ga K n) (ga K n) "__init__" = some (some (.builtin "ValueError.__init__"))
  ve : PySem.W.subIn K (.ref (ga K n)) (.type "ValueError") = some true
  tag : PySem.W.findIn K (.ref (ga K n)) "tag" = some none
  fld : ∀ y, x = some y → PySem.W.findIn K (.ref (ga K n)) y = some none
  clos : closB K (ma K (ga K n) "__init__") (ga K n) file = true
  third : PySem.W.nsIn K cStatics "thirdparty.any" = some none
theorem errB_ok {K : PySem.W.Frag} {n : Str} {x : Option Str} {file : Str} (h : errB K n x file = true) : ErrC K n x file := by
  obtain ⟨h1, h⟩ := ba h
  obtain ⟨h2, h⟩ := ba h
  obtain ⟨h3, h⟩ := ba h
  obtain ⟨h4, h⟩ := ba h
  obtain ⟨h5, h⟩ := ba h
  obtain ⟨h6, h⟩ := ba h
  obtain ⟨h7, h⟩ := ba h
  obtain ⟨h8, h⟩ := ba h
  obtain ⟨h9, h10⟩ := ba h
  refine ⟨oexB_ok h1, xfB_ok h2, eqO_ok h3, of_decide_eq_true h4, eqO_ok h5, of_decide_eq_true h6, eqO_ok h7, fun y e => ?_, h9, eqO_ok h10⟩
  subst e
  exact eqO_ok h8

/-! ### the function of such an __init__, as the head tells it -/
def fnS (K : PySem.W.Frag) (f : Addr) : Option (Str × Str × Arguments × FuncBody × Scope × Addr × List Str × Addr) := match K.lookup f with
  | some ⟨_, _, .func fd, _⟩ => some (fd.name, fd.qualname, fd.params, fd.body, fd.scope, fd.globals, fd.closure.map (·.1), fd.builtins)
  | _ => none
/-- name, qualified name, parameters, body, scope of the statement -/
def stVal (q : Str) (st : Stmt) : Option (Str × Str × Arguments × FuncBody × Scope × Addr × List Str × Addr) := some ("__init__", q, defArgs st, .stmts (defBody st), defScope st, mainGlobals, ["__class__"], builtinsNs)
theorem fnS_ok {K : PySem.W.Frag} {f C : Addr} {file q : Str} {st : Stmt} (e : fnS K f = stVal q st) (c : closB K f C file = true) :
    ∃ (oc : Value) (od : Option Addr) (osl : Array (Option Value)) (kV doc pm ct : Value) (an : Option Addr) (cc cda : Addr) (cl : Value) (cld : Option Addr) (csl : Array (Option Value)) (ccl : Value) (cdd : Option Addr) (ccs : Array (Option Value)) (vs : Array Value) (tf : Tok),
      K.lookup f = some ⟨oc, od, .func (PySem.W.ksFn "__init__" q (defArgs st) (defBody st) (defScope st) .none kV doc pm an (.ref cda) ct cc), osl⟩ ∧ PySem.W.codeIn K (.ref cda) q = true ∧
      K.lookup cc = some ⟨cl, cld, .cell (some (.ref C)), csl⟩ ∧ K.lookup cda = some ⟨ccl, cdd, .fields vs, ccs⟩ ∧ vs[2]? = some (.str file tf) := by
  unfold fnS stVal at e
  unfold closB at c
  split at e
  · rename_i oc od fd osl lk
    rw [lk] at c
    dsimp only at c
    split at c
    · rename_i x cc cda hcl hcd
      obtain ⟨c1, c2⟩ := ba c
      obtain ⟨c3, c4⟩ := ba c2
      obtain ⟨c6, c7⟩ := ba c4
      have c5 := noDfl_ok c7
      clear c4 c7 c2
      split at c1
      · rename_i cl cld C' csl lcc
        have eC := of_decide_eq_true c1
        subst eC
        split at c3
        · rename_i ccl cdd vs ccs lcd
          split at c3
          · rename_i z tf hv
            have ez := of_decide_eq_true c3
            subst ez
            obtain ⟨n1, n2, n3, n4, n5, n6, n7, n8, n9, n10, n11, n12, n13, n14, n15⟩ := fd
            dsimp only at hcl hcd c6 c5 e
            subst hcl hcd c5
            simp only [Option.some.injEq, Prod.mk.injEq, List.map_cons, List.map_nil, List.cons.injEq, and_true] at e
            obtain ⟨h1, h2, h3, h4, h5, h6, h7, h8⟩ := e
            subst h1 h2 h3 h4 h5 h6 h7 h8
            exact ⟨oc, od, osl, n9, n10, n11, n14, n12, cc, cda, cl, cld, csl, ccl, cdd, ccs, vs, tf, lk, c6, lcc, lcd, hv⟩
          · cases c3
        · cases c3
      · cases c1
    · cases c
  · cases e
end CT

/-! The error classes' __init__ as promises; raise C(e). -/
namespace CT
open PySem PySem.Spec PySem.Calls PyProof.Rows L2 He

abbrev supCall (p0 p1 p2 p3 : Pos) (e : Expr) : Expr := .Call (.Attribute (.Call (.Name "super" p0) [] [] p1) "__init__" p2) [e] [] p3
/-- def __init__(self, x): super().__init__(x); self.x = x; self.tag = T -/
structure ErrS (st : Stmt) (x T : Str) : Prop where
  body : ∃ (p0 p1 p2 p3 p4 p5 p6 p7 p8 p9 p10 p11 p12 p13 : Pos) (k : Nat), defBody st =
    [.Expr (supCall p0 p1 p2 p3 (.Name x p5)) p4, .Assign [.Attribute (.Name "self" p6) x p7] (.Name x p8) p9, .Assign [.Attribute (.Name "self" p10) "tag" p11] (.Constant (.str T) k p12) p13] ∧
    ∀ env : Env, ∃ pl : Sem Bool, eval (supCall p0 p1 p2 p3 (.Name x p5)) env = (do
      let ov ← attributeBase (.Call (.Name "super" p0) [] [] p1) "__init__" env (eval (.Call (.Name "super" p0) [] [] p1) env)
      standAt p2.atName
      let (f, first) ← holding [ov] (getMethod ov "__init__" pl)
      callWith p3 f first (backTo p3 (starEach [.Name x p5] env)) [])
  sc : ScS ["self", x] (defScope st)
  hd : ∃ ar : Arg, ((defArgs st).posonlyargs ++ (defArgs st).args).head? = some ar ∧ ar.arg = ("self" : Str)
  dbg : (x == ("__debug__" : Str)) = false
  dct : (x == ("__classdict__" : Str)) = false
  bind : ∀ (q : Str) (kV doc pm ct cdv : Value) (an : Option Addr) (cc : Addr) (us : List Value), us.length = 2 → bindArgs (PySem.W.ksFn "__init__" q (defArgs st) (defBody st) (defScope st) .none kV doc pm an cdv ct cc) ⟨us, []⟩ = pure ((["self", x] : List Str).zip us)
def spInit1 (C : Addr) (x T : Str) : Sp := fun vs H Q _ => ∃ (a : Addr) (v : V), vs = [.ref a, v] ∧ H a = some (exo a C none) ∧
  ∀ d, H d = none → d ≠ a → Q .non (upd (upd (upd H d (exd d [(x, v)])) a (exo a C (some d))) d (exd d [("tag", .str T), (x, v)]))
section
variable {P : Program} {w : World} {K : PySem.W.Frag} {mg : Str → Option Value} {base : Heap} {n x T q file : Str} {st : Stmt}
theorem err_fn1 (E : ErrC K n (some x) file) (S : ErrS st x T) (e : fnS K (ma K (ga K n) "__init__") = stVal q st)
    (hfile : ((P.main.file : Str) == file) = true) (htop : (P.main.scope.names.lookup ("super" : Str)).isSome = false) (msup : mg "super" = none) :
    ∃ fd, FnOk P w K mg base CX0 1 (ma K (ga K n) "__init__") fd ["self", x] (spInit1 (ga K n) x T) ∧ Binds K fd ["self", x] [] := by
  obtain ⟨oc, od, osl, kV, doc, pm, ct, an, cc, cda, cl, cld, csl, ccl, cdd, ccs, vs, tf, lk, hcd, lcc, lcd, hv⟩ := fnS_ok e E.clos
  obtain ⟨p0, p1, p2, p3, p4, p5, p6, p7, p8, p9, p10, p11, p12, p13, k, hb, hev⟩ := S.body
  obtain ⟨ar, har, har2⟩ := S.hd
  refine ⟨_, ?_, .all (S.bind q kV doc pm ct (.ref cda) an cc)⟩
  rw [hb] at lk ⊢
  refine fn_super (k := 0) (e := .Name x p5) lk hcd S.sc har (by rw [har2]; rfl) lcc lcd hv hfile htop msup E.o E.third E.sup E.ve (fun vs H Q E h => ?_) (fun env => rfl) (fun env => rfl) hev (fun A outer s H vs Q E' hr h => ?_)
  · obtain ⟨a, v, rfl, _⟩ := h
    rfl
  · obtain ⟨a, v, rfl, ha, hq⟩ := h
    have hx1 : (["self", x] : List Str)[1]? = some x := rfl
    refine ⟨a, tCons (tVar 1) tNil, rfl, ha, pa_cons (pv 1 rfl (.inl (S.sc.par x (by simp))) S.dbg S.dct) pa_nil, ?_⟩
    refine ⟨v, rfl, by show 1 ≤ 1000; decide, ha, _, pss_cons (ps_ost (pv 0 rfl (.inl (S.sc.par "self" (by simp)))) (pv 1 rfl (.inl (S.sc.par x (by simp))) S.dbg S.dct)) (pss_one (ps_ost (pv 0 rfl (.inl (S.sc.par "self" (by simp)))) pe_str)), ?_⟩
    refine ⟨v, rfl, .ref a, rfl, a, ga K n, rfl, E.o, E.fld x rfl, .inl ⟨ha, fun d hd hda => ?_⟩⟩
    refine ⟨.ref a, rfl, a, ga K n, rfl, E.o, E.tag, .inr ⟨d, [(x, v)], upd_same, ?_, by show 1 ≤ 900; decide, hq d hd hda⟩⟩
    rw [upd_ne hda, upd_same]
theorem err_read {C : Addr} {v : V} {H1 : Hp} {Q : XK} (h : ∀ d, H1 d = none → Q (.ref C) (some d) (upd H1 d (.xd [("tag", .str T), (x, v)]))) :
    ([v] : List V).length ≤ 1000 ∧ ∀ a, H1 a = none → spInit1 C x T (.ref a :: ([v] ++ [])) (upd H1 a (exo a C none))
      (fun v H2 => v = .non ∧ ∃ (d : Addr) (fs : List (Str × V)), H2 a = some (exo a C (some d)) ∧ H2 d = some (exd d fs) ∧ H1 d = none ∧ Q (.ref C) (some d) (upd (del H2 a) d (.xd fs))) (fun _ _ _ => False) := by
  refine ⟨by show 1 ≤ 1000; decide, fun a ha => ⟨a, v, rfl, upd_same, fun d hd hda => ⟨rfl, d, _, ?_, upd_same, ?_, ?_⟩⟩⟩
  · rw [upd_ne hda.symm, upd_same]
  · rw [upd_ne hda] at hd
    exact hd
  · have hd' : H1 d = none := by
      rw [upd_ne hda] at hd
      exact hd
    have e : upd (del (upd (upd (upd (upd H1 a (exo a C none)) d (exd d [(x, v)])) a (exo a C (some d))) d (exd d [("tag", .str T), (x, v)])) a) d (.xd [("tag", .str T), (x, v)]) = upd H1 d (.xd [("tag", .str T), (x, v)]) := by
      funext b
      by_cases hb : b = d
      · rw [hb, upd_same, upd_same]
      · rw [upd_ne hb, upd_ne hb]
        by_cases hba : b = a
        · rw [hba, del_same, ha]
        · rw [del_ne hba, upd_ne hb, upd_ne hba, upd_ne hb, upd_ne hba]
    rw [e]
    exact h d hd'
end
section
variable {X : Cx} {n x T file : Str} {e : Expr} {te : TE} {p pos : Pos}
theorem pmk_err1 (E : ErrC X.K n (some x) file) (F : ∃ fd, FnOk X.prog X.w X.K X.mg X.base CX0 1 (ma X.K (ga X.K n) "__init__") fd ["self", x] (spInit1 (ga X.K n) x T) ∧ Binds X.K fd ["self", x] []) (hr : Room 2 X.A) (hg : Gl X n) (hm : X.mg n = some (.ref (ga X.K n)))
    (ha : PE X e te) (hdb : (n == ("__debug__" : Str)) = false := by decide) (he : starEach [e] X.env = (false, eval e X.env) :: starEach [] X.env := by rfl) :
    PMk X (.Call (.Name n p) [e] [] pos) (tMkO (ga X.K n) (spInit1 (ga X.K n) x T) [] (tCons te tNil)) := by
  obtain ⟨fd, F, b⟩ := F
  exact pmk_oex E.o E.init E.ty F hr b .nil (fun _ _ _ _ _ _ _ h => h.elim) hg hm (pa_cons ha pa_nil he) hdb he rfl
end
end CT

/-! Errors whose __init__ takes nothing: raise C(). -/
namespace CT
open PySem PySem.Spec PySem.Calls PyProof.Rows L2 He
/-- def __init__(self): super().__init__(T); self.tag = T -/
structure ErrS0 (st : Stmt) (T : Str) : Prop where
  body : ∃ (p0 p1 p2 p3 p4 p5 p6 p7 p8 p9 : Pos) (k k2 : Nat), defBody st =
    [.Expr (supCall p0 p1 p2 p3 (.Constant (.str T) k p5)) p4, .Assign [.Attribute (.Name "self" p6) "tag" p7] (.Constant (.str T) k2 p8) p9] ∧
    ∀ env : Env, ∃ pl : Sem Bool, eval (supCall p0 p1 p2 p3 (.Constant (.str T) k p5)) env = (do
      let ov ← attributeBase (.Call (.Name "super" p0) [] [] p1) "__init__" env (eval (.Call (.Name "super" p0) [] [] p1) env)
      standAt p2.atName
      let (f, first) ← holding [ov] (getMethod ov "__init__" pl)
      callWith p3 f first (backTo p3 (starEach [.Constant (.str T) k p5] env)) [])
  sc : ScS ["self"] (defScope st)
  hd : ∃ ar : Arg, ((defArgs st).posonlyargs ++ (defArgs st).args).head? = some ar ∧ ar.arg = ("self" : Str)
  bind : ∀ (q : Str) (kV doc pm ct cdv : Value) (an : Option Addr) (cc : Addr) (us : List Value), us.length = 1 → bindArgs (PySem.W.ksFn "__init__" q (defArgs st) (defBody st) (defScope st) .none kV doc pm an cdv ct cc) ⟨us, []⟩ = pure ((["self"] : List Str).zip us)
def spInit0 (C : Addr) (T : Str) : Sp := fun vs H Q _ => ∃ a : Addr, vs = [.ref a] ∧ H a = some (exo a C none) ∧
  ∀ d, H d = none → d ≠ a → Q .non (upd (upd H d (exd d [("tag", .str T)])) a (exo a C (some d)))
section
variable {P : Program} {w : World} {K : PySem.W.Frag} {mg : Str → Option Value} {base : Heap} {n T q file : Str} {st : Stmt}
theorem err_fn0 (E : ErrC K n none file) (S : ErrS0 st T) (e : fnS K (ma K (ga K n) "__init__") = stVal q st)
    (hfile : ((P.main.file : Str) == file) = true) (htop : (P.main.scope.names.lookup ("super" : Str)).isSome = false) (msup : mg "super" = none) :
    ∃ fd, FnOk P w K mg base CX0 1 (ma K (ga K n) "__init__") fd ["self"] (spInit0 (ga K n) T) ∧ Binds K fd ["self"] [] := by
  obtain ⟨oc, od, osl, kV, doc, pm, ct, an, cc, cda, cl, cld, csl, ccl, cdd, ccs, vs, tf, lk, hcd, lcc, lcd, hv⟩ := fnS_ok e E.clos
  obtain ⟨p0, p1, p2, p3, p4, p5, p6, p7, p8, p9, k, k2, hb, hev⟩ := S.body
  obtain ⟨ar, har, har2⟩ := S.hd
  refine ⟨_, ?_, .all (S.bind q kV doc pm ct (.ref cda) an cc)⟩
  rw [hb] at lk ⊢
  refine fn_super (k := 0) (e := .Constant (.str T) k p5) lk hcd S.sc har (by rw [har2]; rfl) lcc lcd hv hfile htop msup E.o E.third E.sup E.ve (fun vs H Q E h => ?_) (fun env => rfl) (fun env => rfl) hev (fun A outer s H vs Q E' hr h => ?_)
  · obtain ⟨a, rfl, _⟩ := h
    rfl
  · obtain ⟨a, rfl, ha, hq⟩ := h
    refine ⟨a, tCons (tC (.str T)) tNil, rfl, ha, pa_cons pe_str pa_nil, ?_⟩
    refine ⟨by show 1 ≤ 1000; decide, ha, _, pss_one (ps_ost (pv 0 rfl (.inl (S.sc.par "self" (by simp)))) pe_str), ?_⟩
    exact ⟨.ref a, rfl, a, ga K n, rfl, E.o, E.tag, .inl ⟨ha, fun d hd hda => hq d hd hda⟩⟩
theorem err_read0 {C : Addr} {H1 : Hp} {Q : XK} (h : ∀ d, H1 d = none → Q (.ref C) (some d) (upd H1 d (.xd [("tag", .str T)]))) :
    ([] : List V).length ≤ 1000 ∧ ∀ a, H1 a = none → spInit0 C T (.ref a :: (([] : List V) ++ [])) (upd H1 a (exo a C none))
      (fun v H2 => v = .non ∧ ∃ (d : Addr) (fs : List (Str × V)), H2 a = some (exo a C (some d)) ∧ H2 d = some (exd d fs) ∧ H1 d = none ∧ Q (.ref C) (some d) (upd (del H2 a) d (.xd fs))) (fun _ _ _ => False) := by
  refine ⟨by show 0 ≤ 1000; decide, fun a ha => ⟨a, rfl, upd_same, fun d hd hda => ?_⟩⟩
  have hd' : H1 d = none := by
    rw [upd_ne hda] at hd
    exact hd
  refine ⟨rfl, d, [("tag", .str T)], upd_same, ?_, hd', ?_⟩
  · rw [upd_ne hda, upd_same]
  · have e : upd (del (upd (upd (upd H1 a (exo a C none)) d (exd d [("tag", .str T)])) a (exo a C (some d))) a) d (.xd [("tag", .str T)]) = upd H1 d (.xd [("tag", .str T)]) := by
      funext b
      by_cases hb : b = d
      · rw [hb, upd_same, upd_same]
      · rw [upd_ne hb, upd_ne hb]
        by_cases hba : b = a
        · rw [hba, del_same, ha]
        · rw [del_ne hba, upd_ne hba, upd_ne hb, upd_ne hba]
    rw [e]
    exact h d hd'
end
section
variable {X : Cx} {x T : Str} {C fI : Addr} {k : Nat} {fd : FuncData} {ps : List Str} {sp : Sp} {p pos : Pos} {CX : CXT}
/-- C() of an own error class -/
theorem pmk_nil (T : OexC X.K C) (iC : PySem.W.findIn X.K (.ref C) "__init__" = some (some (.ref fI))) (tI : PySem.W.typeIn X.K (.ref fI) = some (.type "function")) (F1 : FnOk X.prog X.w X.K X.mg X.base CX k fI fd ps sp) (hr : Room (k + 1) X.A)
    (hb : Binds X.K fd ps []) (hx : Passes CX X (fun _ _ _ => False)) (hg : Gl X x) (hm : X.mg x = some (.ref C)) (hdb : (x == ("__debug__" : Str)) = false := by decide) : PMk X (.Call (.Name x p) [] [] pos) (tMkO C sp [] tNil) := by
  intro pins s σ H Q J h
  obtain ⟨_, h⟩ := h
  obtain ⟨nm, qn, ns, bs, bm, sn, sub, ab, col, dd, k0, k1, k2, k3, k5, hC, hbm⟩ := T.cls
  refine wpAny_Call_Name_kw (ld_glob J hg hm ?_ hdb)
  refine PySem.W.callWith_K0 J.kIn T.kC ?_
  obtain ⟨hp, gs, dr, tk, os⟩ := s
  have fresh := J.hok.fresh (Nat.le_succ hp.objs.size)
  have want := h (hp.objs.size + 1) fresh
  have keep : ∀ b o, hp.get? b = some o → ((hp.push (PySem.W.kdv_tup [])).push (PySem.HandSPX.excO C hp.objs.size)).get? b = some o := fun b o e => Heap.get?_push_of_some _ (Heap.get?_push_of_some _ e)
  have lies : ((hp.push (PySem.W.kdv_tup [])).push (PySem.HandSPX.excO C hp.objs.size)).get? (hp.objs.size + 1) = some (PySem.HandSPX.excO C hp.objs.size) := by heap_get
  have J2 : Inv X pins σ (upd H (hp.objs.size + 1) (exo (hp.objs.size + 1) C none)) ⟨(hp.push (PySem.W.kdv_tup [])).push (PySem.HandSPX.excO C hp.objs.size), gs, dr, tk, os⟩ :=
    J.laid (t' := tk) (a := hp.objs.size + 1) (o := exo (hp.objs.size + 1) C none) (h' := (hp.push (PySem.W.kdv_tup [])).push (PySem.HandSPX.excO C hp.objs.size)) keep (Nat.le_succ _) (exo_ok lies)
  have hl : ([Value.ref (hp.objs.size + 1)] ++ []).length = ps.length := F1.len _ _ _ _ want
  refine wpAny_call (PySem.HandSPX.call_own F.excBase_ValueError (fun Y => PySem.HandSPX.refsVE_contains Y bm hbm) (J.kIn _ _ hC) (PySem.W.looks_findIn J.kIn iC) (fun self => PySem.W.bind_fn J.kIn self tI) (Nat.zero_le _)
    (codeAny_mono (F1.run _ X.stack _ _ ⟨[Value.ref (hp.objs.size + 1)], []⟩ ([Value.ref (hp.objs.size + 1)] ++ []) [V.ref (hp.objs.size + 1)] _ (fun _ _ _ => False) (hr.make C [] []) (J2.env0.make C [] []) (hb _ [Value.ref (hp.objs.size + 1)] J2.kIn hl) (.cons rfl .nil) want) fun r s' hq' => ?_))
  cases r with
  | error er => exact hx pins σ _ _ er s' J2 hq'
  | ok fl =>
    cases fl with
    | ret u =>
      obtain ⟨v, H2, os2, bare2, un2, hok2, rv, ev, d, fs, ea, ed, hd1, q2⟩ := hq'
      cases ev
      obtain ⟨h2, g2, d2, t2, os'⟩ := s'
      exact ⟨rv, mk_end (raises_own T.exC T.tyC) J (Nat.le_succ _) keep un2 hok2 os2 bare2 ea ed hd1 q2⟩
    | next => exact hq'.elim
    | brk => exact hq'.elim
    | cont => exact hq'.elim
end
section
variable {X : Cx} {n T file : Str} {p pos : Pos}
theorem pmk_err0 (E : ErrC X.K n none file) (F : ∃ fd, FnOk X.prog X.w X.K X.mg X.base CX0 1 (ma X.K (ga X.K n) "__init__") fd ["self"] (spInit0 (ga X.K n) T) ∧ Binds X.K fd ["self"] []) (hr : Room 2 X.A) (hg : Gl X n) (hm : X.mg n = some (.ref (ga X.K n)))
    (hdb : (n == ("__debug__" : Str)) = false := by decide) : PMk X (.Call (.Name n p) [] [] pos) (tMkO (ga X.K n) (spInit0 (ga X.K n) T) [] tNil) := by
  obtain ⟨fd, F, b⟩ := F
  exact pmk_nil E.o E.init E.ty F hr b (fun _ _ _ _ _ _ _ h => h.elim) hg hm hdb
end
end CT

/-! The head's facts: defs, error classes, tables of code objects. -/
namespace CT
open PySem PySem.Spec PyProof.Rows L2 He
def obsC (n : Nat) (fa : List Fa) (fn : List DefD) (tf : List Defn) (ex : PySem.W.Frag → Bool) (fs : List (Str × Str)) (g : Addr → Option Obj) : AlD × Bool × List (Option (Str × Str × Arguments × FuncBody × Scope × Addr × List Str × Addr)) :=
  (fun K => (obsD fa fn K, ex K && tabsB g tf K, fs.map fun p => fnS K (ma K (ga K p.1) p.2))) (frT g (cStatics :: asD g n))
def valC (fn : List DefD) (vs : List (Option (Str × Str × Arguments × FuncBody × Scope × Addr × List Str × Addr))) : AlD × Bool × List (Option (Str × Str × Arguments × FuncBody × Scope × Addr × List Str × Addr)) := (valD fn, true, vs)
structure SaysC (fa : List Fa) (fn : List DefD) (tf : List Defn) (ex : PySem.W.Frag → Bool) (fs : List (Str × Str)) (vs : List (Option (Str × Str × Arguments × FuncBody × Scope × Addr × List Str × Addr))) (h : Heap) (K : PySem.W.Frag) : Prop where
  d : SaysD fa fn K
  more : ex K = true
  fns : (fs.map fun p => fnS K (ma K (ga K p.1) p.2)) = vs
  hd : ∀ p ∈ tf, PySem.W.codeHdIn K (cT K p).1 (cT K p).2 = true
  out : ∀ p ∈ tf, K.lookup (cT K p).2 = none
  empty : ∀ p ∈ tf, h.get? (cT K p).2 = some { cls := .none, data := .fields #[] }
theorem saysC_of {n : Nat} {fa : List Fa} {fn : List DefD} {tf : List Defn} {ex : PySem.W.Frag → Bool} {fs : List (Str × Str)} {vs : List (Option (Str × Str × Arguments × FuncBody × Scope × Addr × List Str × Addr))} {h : Heap} (e : obsC n fa fn tf ex fs h.get? = valC fn vs) : SaysC fa fn tf ex fs vs h (frT h.get? (cStatics :: asD h.get? n)) := by
  have e1 : obsD fa fn (frT h.get? (cStatics :: asD h.get? n)) = valD fn := congrArg (fun z => z.1) e
  have e2 : (ex (frT h.get? (cStatics :: asD h.get? n)) && tabsB h.get? tf (frT h.get? (cStatics :: asD h.get? n))) = true := congrArg (fun z => z.2.1) e
  have e3 : (fs.map fun p => fnS (frT h.get? (cStatics :: asD h.get? n)) (ma (frT h.get? (cStatics :: asD h.get? n)) (ga (frT h.get? (cStatics :: asD h.get? n)) p.1) p.2)) = vs := congrArg (fun z => z.2.2) e
  generalize hK : frT h.get? (cStatics :: asD h.get? n) = K at e1 e2 e3 ⊢
  obtain ⟨h1, h2⟩ := ba e2
  have key : ∀ p ∈ tf, PySem.W.codeHdIn K (cT K p).1 (cT K p).2 = true ∧ ∃ o, h.get? (cT K p).2 = some o ∧ emptyTab o = true := fun p hp => by
    obtain ⟨h3, h4⟩ := ba (List.all_eq_true.mp h2 p hp)
    refine ⟨h3, ?_⟩
    cases q : h.get? (cT K p).2 with
    | none =>
      rw [q] at h4
      cases h4
    | some o =>
      rw [q] at h4
      exact ⟨o, rfl, h4⟩
  exact ⟨e1, h1, e3, fun p hp => (key p hp).1, fun p hp => by
    obtain ⟨_, o, q, z⟩ := key p hp
    have y := frT_none (as := cStatics :: asD h.get? n) q z
    rw [hK] at y
    exact y, fun p hp => by
    obtain ⟨_, o, q, z⟩ := key p hp
    rw [q, emptyTab_eq z]⟩
def hookC (n : Nat) (fa : List Fa) (fn : List DefD) (tf : List Defn) (ex : PySem.W.Frag → Bool) (fs : List (Str × Str)) (vs : List (Option (Str × Str × Arguments × FuncBody × Scope × Addr × List Str × Addr))) : PySem.W.Hook where
  α := AlD × Bool × List (Option (Str × Str × Arguments × FuncBody × Scope × Addr × List Str × Addr))
  obs := fun s => obsC n fa fn tf ex fs s.heap.get?
  val := fun _ => valC fn vs
  says := fun _ h => ∃ K : PySem.W.Frag, K.In h ∧ SaysC fa fn tf ex fs vs h K
  of := fun _ _ e => ⟨_, frT_in, saysC_of e⟩
  keeps := fun _ _ _ ⟨K, hK, c⟩ k => ⟨K, PySem.W.Frag.In.keeps hK k, ⟨c.d, c.more, c.fns, c.hd, c.out, fun p hp => k _ _ (c.empty p hp)⟩⟩
theorem obsC_eq {n : Nat} {fa : List Fa} {fn : List DefD} {tf : List Defn} {ex : PySem.W.Frag → Bool} {fs : List (Str × Str)} {vs : List (Option (Str × Str × Arguments × FuncBody × Scope × Addr × List Str × Addr))} {g : Addr → Option Obj} {s : Shared} (h : ∀ a, g a = s.heap.get? a) :
    obsC n fa fn tf ex fs g = (hookC n fa fn tf ex fs vs).obs s := by
  have e : g = s.heap.get? := funext h
  rw [e] <;> rfl
theorem SaysC.fn {fa : List Fa} {fn : List DefD} {tf : List Defn} {ex : PySem.W.Frag → Bool} {fs : List (Str × Str)} {vs : List (Option (Str × Str × Arguments × FuncBody × Scope × Addr × List Str × Addr))} {h : Heap} {K : PySem.W.Frag} (c : SaysC fa fn tf ex fs vs h K) (i : Nat) {p : Str × Str} {v : Option (Str × Str × Arguments × FuncBody × Scope × Addr × List Str × Addr)} (h1 : fs[i]? = some p := by rfl) (h2 : vs[i]? = some v := by rfl) : fnS K (ma K (ga K p.1) p.2) = v := by
  have e := congrArg (fun l : List _ => l[i]?) c.fns
  have e2 : (fs.map fun p => fnS K (ma K (ga K p.1) p.2))[i]? = vs[i]? := e
  rw [List.getElem?_map, h1, h2] at e2
  exact Option.some.inj e2
end CT

/-! The head's facts, the defs at any address (methods, static ones, getters). -/
namespace CT
open PySem PySem.Spec PyProof.Rows L2 He
def obsW (n : Nat) (fa : List Fa) (fn : List He5.DefA) (tf : List Defn) (ex : PySem.W.Frag → Bool) (fs : List (Str × Str)) (g : Addr → Option Obj) : AlD × Bool × List (Option (Str × Str × Arguments × FuncBody × Scope × Addr × List Str × Addr)) :=
  (fun K => (He5.obsA fa fn K, ex K && tabsB g tf K, fs.map fun p => fnS K (ma K (ga K p.1) p.2))) (frT g (cStatics :: asD g n))
def valW (fn : List He5.DefA) (vs : List (Option (Str × Str × Arguments × FuncBody × Scope × Addr × List Str × Addr))) : AlD × Bool × List (Option (Str × Str × Arguments × FuncBody × Scope × Addr × List Str × Addr)) := (He5.valA fn, true, vs)
structure SaysW (fa : List Fa) (fn : List He5.DefA) (tf : List Defn) (ex : PySem.W.Frag → Bool) (fs : List (Str × Str)) (vs : List (Option (Str × Str × Arguments × FuncBody × Scope × Addr × List Str × Addr))) (h : Heap) (K : PySem.W.Frag) : Prop where
  d : He5.SaysA fa fn K
  more : ex K = true
  fns : (fs.map fun p => fnS K (ma K (ga K p.1) p.2)) = vs
  hd : ∀ p ∈ tf, PySem.W.codeHdIn K (cT K p).1 (cT K p).2 = true
  out : ∀ p ∈ tf, K.lookup (cT K p).2 = none
  empty : ∀ p ∈ tf, h.get? (cT K p).2 = some { cls := .none, data := .fields #[] }
theorem saysW_of {n : Nat} {fa : List Fa} {fn : List He5.DefA} {tf : List Defn} {ex : PySem.W.Frag → Bool} {fs : List (Str × Str)} {vs : List (Option (Str × Str × Arguments × FuncBody × Scope × Addr × List Str × Addr))} {h : Heap} (e : obsW n fa fn tf ex fs h.get? = valW fn vs) : SaysW fa fn tf ex fs vs h (frT h.get? (cStatics :: asD h.get? n)) := by
  have e1 : He5.obsA fa fn (frT h.get? (cStatics :: asD h.get? n)) = He5.valA fn := congrArg (fun z => z.1) e
  have e2 : (ex (frT h.get? (cStatics :: asD h.get? n)) && tabsB h.get? tf (frT h.get? (cStatics :: asD h.get? n))) = true := congrArg (fun z => z.2.1) e
  have e3 : (fs.map fun p => fnS (frT h.get? (cStatics :: asD h.get? n)) (ma (frT h.get? (cStatics :: asD h.get? n)) (ga (frT h.get? (cStatics :: asD h.get? n)) p.1) p.2)) = vs := congrArg (fun z => z.2.2) e
  generalize hK : frT h.get? (cStatics :: asD h.get? n) = K at e1 e2 e3 ⊢
  obtain ⟨h1, h2⟩ := ba e2
  have key : ∀ p ∈ tf, PySem.W.codeHdIn K (cT K p).1 (cT K p).2 = true ∧ ∃ o, h.get? (cT K p).2 = some o ∧ emptyTab o = true := fun p hp => by
    obtain ⟨h3, h4⟩ := ba (List.all_eq_true.mp h2 p hp)
    refine ⟨h3, ?_⟩
    cases q : h.get? (cT K p).2 with
    | none =>
      rw [q] at h4
      cases h4
    | some o =>
      rw [q] at h4
      exact ⟨o, rfl, h4⟩
  exact ⟨e1, h1, e3, fun p hp => (key p hp).1, fun p hp => by
    obtain ⟨_, o, q, z⟩ := key p hp
    have y := frT_none (as := cStatics :: asD h.get? n) q z
    rw [hK] at y
    exact y, fun p hp => by
    obtain ⟨_, o, q, z⟩ := key p hp
    rw [q, emptyTab_eq z]⟩
def hookW (n : Nat) (fa : List Fa) (fn : List He5.DefA) (tf : List Defn) (ex : PySem.W.Frag → Bool) (fs : List (Str × Str)) (vs : List (Option (Str × Str × Arguments × FuncBody × Scope × Addr × List Str × Addr))) : PySem.W.Hook where
  α := AlD × Bool × List (Option (Str × Str × Arguments × FuncBody × Scope × Addr × List Str × Addr))
  obs := fun s => obsW n fa fn tf ex fs s.heap.get?
  val := fun _ => valW fn vs
  says := fun _ h => ∃ K : PySem.W.Frag, K.In h ∧ SaysW fa fn tf ex fs vs h K
  of := fun _ _ e => ⟨_, frT_in, saysW_of e⟩
  keeps := fun _ _ _ ⟨K, hK, c⟩ k => ⟨K, PySem.W.Frag.In.keeps hK k, ⟨c.d, c.more, c.fns, c.hd, c.out, fun p hp => k _ _ (c.empty p hp)⟩⟩
theorem obsW_eq {n : Nat} {fa : List Fa} {fn : List He5.DefA} {tf : List Defn} {ex : PySem.W.Frag → Bool} {fs : List (Str × Str)} {vs : List (Option (Str × Str × Arguments × FuncBody × Scope × Addr × List Str × Addr))} {g : Addr → Option Obj} {s : Shared} (h : ∀ a, g a = s.heap.get? a) :
    obsW n fa fn tf ex fs g = (hookW n fa fn tf ex fs vs).obs s := by
  have e : g = s.heap.get? := funext h
  rw [e] <;> rfl
theorem SaysW.fn {fa : List Fa} {fn : List He5.DefA} {tf : List Defn} {ex : PySem.W.Frag → Bool} {fs : List (Str × Str)} {vs : List (Option (Str × Str × Arguments × FuncBody × Scope × Addr × List Str × Addr))} {h : Heap} {K : PySem.W.Frag} (c : SaysW fa fn tf ex fs vs h K) (i : Nat) {p : Str × Str} {v : Option (Str × Str × Arguments × FuncBody × Scope × Addr × List Str × Addr)} (h1 : fs[i]? = some p := by rfl) (h2 : vs[i]? = some v := by rfl) : fnS K (ma K (ga K p.1) p.2) = v := by
  have e := congrArg (fun l : List _ => l[i]?) c.fns
  have e2 : (fs.map fun p => fnS K (ma K (ga K p.1) p.2))[i]? = vs[i]? := e
  rw [List.getElem?_map, h1, h2] at e2
  exact Option.some.inj e2
end CT

/-! The head's facts over named addresses (as CtHook2, without the growth). -/
namespace CT
open PySem PySem.Spec PyProof.Rows L2 He
def obsL (as : List Addr) (fa : List Fa) (fn : List He5.DefA) (tf : List Defn) (ex : PySem.W.Frag → Bool) (fs : List (Str × Str)) (g : Addr → Option Obj) : AlD × Bool × List (Option (Str × Str × Arguments × FuncBody × Scope × Addr × List Str × Addr)) :=
  (fun K => (He5.obsA fa fn K, ex K && tabsB g tf K, fs.map fun p => fnS K (ma K (ga K p.1) p.2))) (frT g as)
theorem saysL_of {as : List Addr} {fa : List Fa} {fn : List He5.DefA} {tf : List Defn} {ex : PySem.W.Frag → Bool} {fs : List (Str × Str)} {vs : List (Option (Str × Str × Arguments × FuncBody × Scope × Addr × List Str × Addr))} {h : Heap} (e : obsL as fa fn tf ex fs h.get? = valW fn vs) : SaysW fa fn tf ex fs vs h (frT h.get? as) := by
  have e1 : He5.obsA fa fn (frT h.get? as) = He5.valA fn := congrArg (fun z => z.1) e
  have e2 : (ex (frT h.get? as) && tabsB h.get? tf (frT h.get? as)) = true := congrArg (fun z => z.2.1) e
  have e3 : (fs.map fun p => fnS (frT h.get? as) (ma (frT h.get? as) (ga (frT h.get? as) p.1) p.2)) = vs := congrArg (fun z => z.2.2) e
  generalize hK : frT h.get? as = K at e1 e2 e3 ⊢
  obtain ⟨h1, h2⟩ := ba e2
  have key : ∀ p ∈ tf, PySem.W.codeHdIn K (cT K p).1 (cT K p).2 = true ∧ ∃ o, h.get? (cT K p).2 = some o ∧ emptyTab o = true := fun p hp => by
    obtain ⟨h3, h4⟩ := ba (List.all_eq_true.mp h2 p hp)
    refine ⟨h3, ?_⟩
    cases q : h.get? (cT K p).2 with
    | none =>
      rw [q] at h4
      cases h4
    | some o =>
      rw [q] at h4
      exact ⟨o, rfl, h4⟩
  exact ⟨e1, h1, e3, fun p hp => (key p hp).1, fun p hp => by
    obtain ⟨_, o, q, z⟩ := key p hp
    have y := frT_none (as := as) q z
    rw [hK] at y
    exact y, fun p hp => by
    obtain ⟨_, o, q, z⟩ := key p hp
    rw [q, emptyTab_eq z]⟩
def hookL (as : List Addr) (fa : List Fa) (fn : List He5.DefA) (tf : List Defn) (ex : PySem.W.Frag → Bool) (fs : List (Str × Str)) (vs : List (Option (Str × Str × Arguments × FuncBody × Scope × Addr × List Str × Addr))) : PySem.W.Hook where
  α := AlD × Bool × List (Option (Str × Str × Arguments × FuncBody × Scope × Addr × List Str × Addr))
  obs := fun s => obsL as fa fn tf ex fs s.heap.get?
  val := fun _ => valW fn vs
  says := fun _ h => ∃ K : PySem.W.Frag, K.In h ∧ SaysW fa fn tf ex fs vs h K
  of := fun _ _ e => ⟨_, frT_in, saysL_of e⟩
  keeps := fun _ _ _ ⟨K, hK, c⟩ k => ⟨K, PySem.W.Frag.In.keeps hK k, ⟨c.d, c.more, c.fns, c.hd, c.out, fun p hp => k _ _ (c.empty p hp)⟩⟩
theorem obsL_eq {as : List Addr} {fa : List Fa} {fn : List He5.DefA} {tf : List Defn} {ex : PySem.W.Frag → Bool} {fs : List (Str × Str)} {vs : List (Option (Str × Str × Arguments × FuncBody × Scope × Addr × List Str × Addr))} {g : Addr → Option Obj} {s : Shared} (h : ∀ a, g a = s.heap.get? a) :
    obsL as fa fn tf ex fs g = (hookL as fa fn tf ex fs vs).obs s := by
  have e : g = s.heap.get? := funext h
  rw [e] <;> rfl
/-- all that is looked at holds (to find the addresses that are wanted) -/
def holdsL (as : List Addr) (fa : List Fa) (fn : List He5.DefA) (tf : List Defn) (ex : PySem.W.Frag → Bool) (fs : List (Str × Str)) (g : Addr → Option Obj) : Bool :=
  (fun K => (fa.all fun f => f.ok K) && (fn.all fun d => d.ok K) && (fn.all fun d => (He5.fnA K (d.at_ K)).isSome) && ex K && tabsB g tf K && fs.all fun p => (fnS K (ma K (ga K p.1) p.2)).isSome) (frT g as)
end CT

/-! What the head tells of a class of one's own. -/
namespace CT
open PySem PySem.Spec PySem.Calls PyProof.Rows L2 He
/-! ### facts of a class, as the head tells them -/
/-- types that are no own class -/
def otherTs : List String := ["NoneType", "bool", "int", "str", "list", "tuple"]
structure ClsF (K : PySem.W.Frag) (C : Addr) : Prop where
  sf : PySem.W.selfFirst K C = true
  rd : PySem.W.readsIn K C (.type "type") = true
  kp : PySem.W.keepIn K (.ref C) = true
  ca : PySem.W.findIn K (.ref C) "__class__" = some (some (.builtin "object.__class__"))
  cg : PySem.W.specialIn K (.builtin "object.__class__") "__get__" = some (some (.builtin "getset_descriptor.__get__"))
  ct : PySem.W.takesIn K (.builtin "object.__class__") = some true
  ob : PySem.W.mroIn K C (.type "object") = some true
  ne : PySem.W.findIn K (.ref C) "__ne__" = some (some (.builtin "object.__ne__"))
  no : ∀ t ∈ otherTs, PySem.W.kitOne K (.type t) (.ref C) = some false ∧ PySem.W.subIn K (.type t) (.ref C) = some false
def clsB (K : PySem.W.Frag) (C : Addr) : Bool := PySem.W.selfFirst K C && (PySem.W.readsIn K C (.type "type") && (PySem.W.keepIn K (.ref C) && (eqO (PySem.W.findIn K (.ref C) "__class__") (some (some (.builtin "object.__class__"))) && (eqO (PySem.W.specialIn K (.builtin "object.__class__") "__get__") (some (some (.builtin "getset_descriptor.__get__"))) &&
  (decide (PySem.W.takesIn K (.builtin "object.__class__") = some true) && (decide (PySem.W.mroIn K C (.type "object") = some true) && (eqO (PySem.W.findIn K (.ref C) "__ne__") (some (some (.builtin "object.__ne__"))) &&
  otherTs.all fun t => decide (PySem.W.kitOne K (.type t) (.ref C) = some false) && decide (PySem.W.subIn K (.type t) (.ref C) = some false))))))))
theorem clsB_ok {K : PySem.W.Frag} {C : Addr} (h : clsB K C = true) : ClsF K C := by
  obtain ⟨h1, h⟩ := ba h
  obtain ⟨h2, h⟩ := ba h
  obtain ⟨h3, h⟩ := ba h
  obtain ⟨h4, h⟩ := ba h
  obtain ⟨h5, h⟩ := ba h
  obtain ⟨h6, h⟩ := ba h
  obtain ⟨h7, h⟩ := ba h
  obtain ⟨h8, h9⟩ := ba h
  exact ⟨h1, h2, h3, eqO_ok h4, eqO_ok h5, of_decide_eq_true h6, of_decide_eq_true h7, eqO_ok h8, fun t ht => by
    obtain ⟨a, b⟩ := ba (List.all_eq_true.mp h9 t ht)
    exact ⟨of_decide_eq_true a, of_decide_eq_true b⟩⟩
theorem ClsF.read {K : PySem.W.Frag} {C : Addr} (c : ClsF K C) : ClX.CRead K C (.type "type") := by
  refine ⟨c.rd, ?_⟩
  have h := c.rd
  unfold PySem.W.readsIn at h
  obtain ⟨h, _⟩ := ba h
  obtain ⟨h, _⟩ := ba h
  obtain ⟨h, h3⟩ := ba h
  obtain ⟨_, h2⟩ := ba h
  unfold PySem.W.specialIn
  rw [beq_iff_eq.mp h2, Option.bind_some]
  exact beq_iff_eq.mp h3
/-- C.m is a static method -/
structure StatF (K : PySem.W.Frag) (C : Addr) (m : Str) : Prop where
  at_ : PySem.W.findCls K (.ref C) (.type "type") m = some (.get (.builtin "staticmethod.__get__") (.ref (ma K C m)) .none (.ref C))
  rc : ∃ rest, PySem.W.recIn K (ma K C m) "staticmethod" = some (.ref (He5.wf K C "staticmethod" m) :: rest)
def statB (K : PySem.W.Frag) (C : Addr) (m : Str) : Bool := He5.wrapB K C "staticmethod" "staticmethod.__get__" m
theorem statB_ok {K : PySem.W.Frag} {C : Addr} {m : Str} (h : statB K C m = true) : StatF K C m := ⟨(He5.wrapB_ok h).1, (He5.wrapB_ok h).2⟩
def propB (K : PySem.W.Frag) (C : Addr) (f : Str) : Bool := eqO (PySem.W.findIn K (.ref C) f) (some (some (.ref (ma K C f)))) && (eqO (PySem.W.specialIn K (.ref (ma K C f)) "__get__") (some (some (.builtin "property.__get__"))) &&
  (decide (PySem.W.takesIn K (.ref (ma K C f)) = some true) && (match PySem.W.recIn K (ma K C f) "property" with | some (.ref _ :: _) => true | _ => false)))
theorem propB_ok {K : PySem.W.Frag} {C : Addr} {f : Str} (h : propB K C f = true) : PropOf K C f (ma K C f) (He5.wf K C "property" f) := by
  obtain ⟨h1, h⟩ := ba h
  obtain ⟨h2, h⟩ := ba h
  obtain ⟨h3, h4⟩ := ba h
  refine ⟨eqO_ok h1, eqO_ok h2, of_decide_eq_true h3, ?_⟩
  unfold He5.wf
  split at h4
  · rename_i g r e
    exact ⟨r, by rw [e]⟩
  · cases h4
/-- a class's own int -/
def conB (K : PySem.W.Frag) (C : Addr) (f : Str) (i : Int) : Bool := match PySem.W.findCls K (.ref C) (.type "type") f with
  | some (.val (.int j _)) => decide (j = i)
  | _ => false
theorem conB_ok {K : PySem.W.Frag} {C : Addr} {f : Str} {i : Int} (h : conB K C f i = true) : ∃ u, ClX.CVal K C (.type "type") f (.int i) u := by
  unfold conB at h
  split at h
  · rename_i j t e
    have := of_decide_eq_true h
    subst this
    exact ⟨_, e, t, rfl⟩
  · cases h
end CT

namespace CT
open PySem PySem.Spec PySem.Calls PyProof.Rows L2 He
def top (i : Nat) : Stmt := PySem.Challenge.pw_copytail_k07_values_at_points.main.body.getD i (.Pass ⟨0, 0, 0, 0⟩)
abbrev s_wall : Stmt := top 0
abbrev n_wall : List Str := ["k"]
theorem sc_wall : FnScope ["k"] ["k"] (defScope s_wall) := ⟨rfl, rfl, rfl, by decide +kernel, rfl, by decide +kernel, by decide +kernel⟩
abbrev s_greatest_common : Stmt := top 31
abbrev n_greatest_common : List Str := ["one", "other"]
theorem sc_greatest_common : FnScope ["one", "other"] ["one", "other"] (defScope s_greatest_common) := ⟨rfl, rfl, rfl, by decide +kernel, rfl, by decide +kernel, by decide +kernel⟩
abbrev s_ratio : Stmt := top 32
abbrev n_ratio : List Str := ["top", "under", "shared"]
theorem sc_ratio : FnScope ["top", "under", "shared"] ["top", "under"] (defScope s_ratio) := ⟨rfl, rfl, rfl, by decide +kernel, rfl, by decide +kernel, by decide +kernel⟩
abbrev s_is_ratio : Stmt := top 33
abbrev n_is_ratio : List Str := ["pair"]
theorem sc_is_ratio : FnScope ["pair"] ["pair"] (defScope s_is_ratio) := ⟨rfl, rfl, rfl, by decide +kernel, rfl, by decide +kernel, by decide +kernel⟩
abbrev s_add : Stmt := top 34
abbrev n_add : List Str := ["one", "other"]
theorem sc_add : FnScope ["one", "other"] ["one", "other"] (defScope s_add) := ⟨rfl, rfl, rfl, by decide +kernel, rfl, by decide +kernel, by decide +kernel⟩
abbrev s_negated : Stmt := top 35
abbrev n_negated : List Str := ["one"]
theorem sc_negated : FnScope ["one"] ["one"] (defScope s_negated) := ⟨rfl, rfl, rfl, by decide +kernel, rfl, by decide +kernel, by decide +kernel⟩
abbrev s_multiply : Stmt := top 36
abbrev n_multiply : List Str := ["one", "other"]
theorem sc_multiply : FnScope ["one", "other"] ["one", "other"] (defScope s_multiply) := ⟨rfl, rfl, rfl, by decide +kernel, rfl, by decide +kernel, by decide +kernel⟩
abbrev s_ratio_text : Stmt := top 37
abbrev n_ratio_text : List Str := ["one"]
theorem sc_ratio_text : FnScope ["one"] ["one"] (defScope s_ratio_text) := ⟨rfl, rfl, rfl, by decide +kernel, rfl, by decide +kernel, by decide +kernel⟩
abbrev s_order_key : Stmt := top 39
abbrev n_order_key : List Str := ["exponents"]
theorem sc_order_key : FnScope ["exponents"] ["exponents"] (defScope s_order_key) := ⟨rfl, rfl, rfl, by decide +kernel, rfl, by decide +kernel, by decide +kernel⟩
abbrev s_summed_tables : Stmt := top 40
abbrev n_summed_tables : List Str := ["one", "other", "keys", "key", "pairs", "value"]
theorem sc_summed_tables : FnScope ["one", "other", "keys", "key", "pairs", "value"] ["one", "other"] (defScope s_summed_tables) := ⟨rfl, rfl, rfl, by decide +kernel, rfl, by decide +kernel, by decide +kernel⟩
abbrev s_shifted_table : Stmt := top 41
abbrev n_shifted_table : List Str := ["table", "exponents", "times", "a", "b", "key", "value"]
theorem sc_shifted_table : FnScope ["table", "exponents", "times", "a", "b", "key", "value"] ["table", "exponents", "times"] (defScope s_shifted_table) := ⟨rfl, rfl, rfl, by decide +kernel, rfl, by decide +kernel, by decide +kernel⟩
abbrev s_multiplied_tables : Stmt := top 42
abbrev n_multiplied_tables : List Str := ["one", "other", "found", "key", "value", "more", "times", "place", "a", "b"]
theorem sc_multiplied_tables : FnScope ["one", "other", "found", "key", "value", "more", "times", "place", "a", "b"] ["one", "other"] (defScope s_multiplied_tables) := ⟨rfl, rfl, rfl, by decide +kernel, rfl, by decide +kernel, by decide +kernel⟩
abbrev s_is_key : Stmt := top 43
abbrev n_is_key : List Str := ["exponents", "many", "exponent"]
theorem sc_is_key : FnScope ["exponents", "many", "exponent"] ["exponents", "many"] (defScope s_is_key) := ⟨rfl, rfl, rfl, by decide +kernel, rfl, by decide +kernel, by decide +kernel⟩
abbrev s_of_table : Stmt := top 44
abbrev n_of_table : List Str := ["many", "table"]
theorem sc_of_table : FnScope ["many", "table"] ["many", "table"] (defScope s_of_table) := ⟨rfl, rfl, rfl, by decide +kernel, rfl, by decide +kernel, by decide +kernel⟩
abbrev s_term_text : Stmt := top 46
abbrev n_term_text : List Str := ["key", "value", "names", "words", "name", "exponent"]
theorem sc_term_text : FnScope ["key", "value", "names", "words", "name", "exponent"] ["key", "value", "names"] (defScope s_term_text) := ⟨rfl, rfl, rfl, by decide +kernel, rfl, by decide +kernel, by decide +kernel⟩
abbrev s_law_feed : Stmt := top 48
abbrev n_law_feed : List Str := ["_law_script", "_law_cells", "_law_mark", "_law_cell"]
theorem sc_law_feed : FnScope ["_law_script", "_law_cells", "_law_mark", "_law_cell"] ["_law_script"] (defScope s_law_feed) := ⟨rfl, rfl, rfl, by decide +kernel, rfl, by decide +kernel, by decide +kernel⟩
abbrev s_law_take : Stmt := top 49
abbrev n_law_take : List Str := ["_law_feed_here", "_law_many", "_law_cell", "_law_mixed", "_law_found"]
theorem sc_law_take : FnScope ["_law_feed_here", "_law_many", "_law_cell", "_law_mixed", "_law_found"] ["_law_feed_here", "_law_many"] (defScope s_law_take) := ⟨rfl, rfl, rfl, by decide +kernel, rfl, by decide +kernel, by decide +kernel⟩
abbrev s_law_gcd : Stmt := top 50
abbrev n_law_gcd : List Str := ["_law_one", "_law_two"]
theorem sc_law_gcd : FnScope ["_law_one", "_law_two"] ["_law_one", "_law_two"] (defScope s_law_gcd) := ⟨rfl, rfl, rfl, by decide +kernel, rfl, by decide +kernel, by decide +kernel⟩
abbrev s_law_low : Stmt := top 51
abbrev n_law_low : List Str := ["_law_top", "_law_under", "_law_part"]
theorem sc_law_low : FnScope ["_law_top", "_law_under", "_law_part"] ["_law_top", "_law_under"] (defScope s_law_low) := ⟨rfl, rfl, rfl, by decide +kernel, rfl, by decide +kernel, by decide +kernel⟩
abbrev s_law_plus : Stmt := top 52
abbrev n_law_plus : List Str := ["_law_one", "_law_two"]
theorem sc_law_plus : FnScope ["_law_one", "_law_two"] ["_law_one", "_law_two"] (defScope s_law_plus) := ⟨rfl, rfl, rfl, by decide +kernel, rfl, by decide +kernel, by decide +kernel⟩
abbrev s_law_put_term : Stmt := top 53
abbrev n_law_put_term : List Str := ["_law_table", "_law_key", "_law_value_here", "_law_found"]
theorem sc_law_put_term : FnScope ["_law_table", "_law_key", "_law_value_here", "_law_found"] ["_law_table", "_law_key", "_law_value_here"] (defScope s_law_put_term) := ⟨rfl, rfl, rfl, by decide +kernel, rfl, by decide +kernel, by decide +kernel⟩
abbrev s_law_number : Stmt := top 54
abbrev n_law_number : List Str := ["_law_feed_here", "_law_size", "_law_top", "_law_under"]
theorem sc_law_number : FnScope ["_law_feed_here", "_law_size", "_law_top", "_law_under"] ["_law_feed_here", "_law_size"] (defScope s_law_number) := ⟨rfl, rfl, rfl, by decide +kernel, rfl, by decide +kernel, by decide +kernel⟩
abbrev s_law_drawn : Stmt := top 55
abbrev n_law_drawn : List Str := ["_law_feed_here", "_law_many", "_law_degree", "_law_size", "_law_found", "_law_turn", "_law_key", "_law_step", "_law_at"]
theorem sc_law_drawn : FnScope ["_law_feed_here", "_law_many", "_law_degree", "_law_size", "_law_found", "_law_turn", "_law_key", "_law_step", "_law_at"] ["_law_feed_here", "_law_many", "_law_degree", "_law_size"] (defScope s_law_drawn) := ⟨rfl, rfl, rfl, by decide +kernel, rfl, by decide +kernel, by decide +kernel⟩
abbrev s_law_poly : Stmt := top 56
abbrev n_law_poly : List Str := ["_law_many", "_law_one", "_law_key"]
theorem sc_law_poly : FnScope ["_law_many", "_law_one", "_law_key"] ["_law_many", "_law_one"] (defScope s_law_poly) := ⟨rfl, rfl, rfl, by decide +kernel, rfl, by decide +kernel, by decide +kernel⟩
abbrev s_law_pick : Stmt := top 57
abbrev n_law_pick : List Str := ["_law_feed_here", "_law_things"]
theorem sc_law_pick : FnScope ["_law_feed_here", "_law_things"] ["_law_feed_here", "_law_things"] (defScope s_law_pick) := ⟨rfl, rfl, rfl, by decide +kernel, rfl, by decide +kernel, by decide +kernel⟩
abbrev s_law_small : Stmt := top 58
abbrev n_law_small : List Str := ["_law_feed_here"]
theorem sc_law_small : FnScope ["_law_feed_here"] ["_law_feed_here"] (defScope s_law_small) := ⟨rfl, rfl, rfl, by decide +kernel, rfl, by decide +kernel, by decide +kernel⟩
abbrev s_law_by : Stmt := top 59
abbrev n_law_by : List Str := ["_law_one", "_law_two"]
theorem sc_law_by : FnScope ["_law_one", "_law_two"] ["_law_one", "_law_two"] (defScope s_law_by) := ⟨rfl, rfl, rfl, by decide +kernel, rfl, by decide +kernel, by decide +kernel⟩
abbrev s_law_value : Stmt := top 60
abbrev n_law_value : List Str := ["_law_one", "_law_point", "_law_found", "_law_key", "_law_part", "_law_at", "_law_turn"]
theorem sc_law_value : FnScope ["_law_one", "_law_point", "_law_found", "_law_key", "_law_part", "_law_at", "_law_turn"] ["_law_one", "_law_point"] (defScope s_law_value) := ⟨rfl, rfl, rfl, by decide +kernel, rfl, by decide +kernel, by decide +kernel⟩
abbrev s_law_same : Stmt := top 61
abbrev n_law_same : List Str := ["_law_found", "_law_due", "_law_one", "_law_two"]
theorem sc_law_same : FnScope ["_law_found", "_law_due", "_law_one", "_law_two"] ["_law_found", "_law_due"] (defScope s_law_same) := ⟨rfl, rfl, rfl, by decide +kernel, rfl, by decide +kernel, by decide +kernel⟩
abbrev s_law_why : Stmt := top 62
abbrev n_law_why : List Str := ["_law_ask", "_law_told", "e"]
theorem sc_law_why : FnScope ["_law_ask", "_law_told", "e"] ["_law_ask"] (defScope s_law_why) := ⟨rfl, rfl, rfl, by decide +kernel, rfl, by decide +kernel, by decide +kernel⟩
abbrev s_law : Stmt := top 63
abbrev n_law : List Str := ["_law_script", "_law_feed_here", "_law_turn", "_law_many", "_law_one", "_law_made", "_law_point", "_law_k", "_law_kept", "_law_due", "_law_asks", "_law_ask"]
theorem sc_law : FnScope ["_law_script", "_law_feed_here", "_law_turn", "_law_many", "_law_one", "_law_made", "_law_point", "_law_k", "_law_kept", "_law_due", "_law_asks", "_law_ask"] ["_law_script"] (defScope s_law) := ⟨rfl, rfl, rfl, by decide +kernel, rfl, by decide +kernel, by decide +kernel⟩
abbrev s_Poly_init : Stmt := inClass (top 45) 1
abbrev n_Poly_init : List Str := ["self", "many", "terms", "table", "at", "key", "value"]
theorem sc_Poly_init : FnScope ["self", "many", "terms", "table", "at", "key", "value"] ["self", "many", "terms"] (defScope s_Poly_init) := ⟨rfl, rfl, rfl, by decide +kernel, rfl, by decide +kernel, by decide +kernel⟩
abbrev s_Poly_number : Stmt := inClass (top 45) 2
abbrev n_Poly_number : List Str := ["many", "value"]
theorem sc_Poly_number : FnScope ["many", "value"] ["many", "value"] (defScope s_Poly_number) := ⟨rfl, rfl, rfl, by decide +kernel, rfl, by decide +kernel, by decide +kernel⟩
abbrev s_Poly_unknown : Stmt := inClass (top 45) 3
abbrev n_Poly_unknown : List Str := ["many", "at"]
theorem sc_Poly_unknown : FnScope ["many", "at"] ["many", "at"] (defScope s_Poly_unknown) := ⟨rfl, rfl, rfl, by decide +kernel, rfl, by decide +kernel, by decide +kernel⟩
abbrev s_Poly_many : Stmt := inClass (top 45) 4
abbrev n_Poly_many : List Str := ["self"]
theorem sc_Poly_many : FnScope ["self"] ["self"] (defScope s_Poly_many) := ⟨rfl, rfl, rfl, by decide +kernel, rfl, by decide +kernel, by decide +kernel⟩
abbrev s_Poly_degree : Stmt := inClass (top 45) 5
abbrev n_Poly_degree : List Str := ["self", "key"]
theorem sc_Poly_degree : FnScope ["self", "key"] ["self"] (defScope s_Poly_degree) := ⟨rfl, rfl, rfl, by decide +kernel, rfl, by decide +kernel, by decide +kernel⟩
abbrev s_Poly_need_like : Stmt := inClass (top 45) 6
abbrev n_Poly_need_like : List Str := ["self", "other"]
theorem sc_Poly_need_like : FnScope ["self", "other"] ["self", "other"] (defScope s_Poly_need_like) := ⟨rfl, rfl, rfl, by decide +kernel, rfl, by decide +kernel, by decide +kernel⟩
abbrev s_Poly_add : Stmt := inClass (top 45) 7
abbrev n_Poly_add : List Str := ["self", "other"]
theorem sc_Poly_add : FnScope ["self", "other"] ["self", "other"] (defScope s_Poly_add) := ⟨rfl, rfl, rfl, by decide +kernel, rfl, by decide +kernel, by decide +kernel⟩
abbrev s_Poly_neg : Stmt := inClass (top 45) 8
abbrev n_Poly_neg : List Str := ["self", "key", "value"]
theorem sc_Poly_neg : FnScope ["self", "key", "value"] ["self"] (defScope s_Poly_neg) := ⟨rfl, rfl, rfl, by decide +kernel, rfl, by decide +kernel, by decide +kernel⟩
abbrev s_Poly_sub : Stmt := inClass (top 45) 9
abbrev n_Poly_sub : List Str := ["self", "other"]
theorem sc_Poly_sub : FnScope ["self", "other"] ["self", "other"] (defScope s_Poly_sub) := ⟨rfl, rfl, rfl, by decide +kernel, rfl, by decide +kernel, by decide +kernel⟩
abbrev s_Poly_mul : Stmt := inClass (top 45) 10
abbrev n_Poly_mul : List Str := ["self", "other"]
theorem sc_Poly_mul : FnScope ["self", "other"] ["self", "other"] (defScope s_Poly_mul) := ⟨rfl, rfl, rfl, by decide +kernel, rfl, by decide +kernel, by decide +kernel⟩
abbrev s_Poly_eq : Stmt := inClass (top 45) 11
abbrev n_Poly_eq : List Str := ["self", "other"]
theorem sc_Poly_eq : FnScope ["self", "other"] ["self", "other"] (defScope s_Poly_eq) := ⟨rfl, rfl, rfl, by decide +kernel, rfl, by decide +kernel, by decide +kernel⟩
abbrev s_Poly_bool : Stmt := inClass (top 45) 12
abbrev n_Poly_bool : List Str := ["self"]
theorem sc_Poly_bool : FnScope ["self"] ["self"] (defScope s_Poly_bool) := ⟨rfl, rfl, rfl, by decide +kernel, rfl, by decide +kernel, by decide +kernel⟩
abbrev s_Poly_len : Stmt := inClass (top 45) 13
abbrev n_Poly_len : List Str := ["self"]
theorem sc_Poly_len : FnScope ["self"] ["self"] (defScope s_Poly_len) := ⟨rfl, rfl, rfl, by decide +kernel, rfl, by decide +kernel, by decide +kernel⟩
abbrev s_Poly_repr : Stmt := inClass (top 45) 14
abbrev n_Poly_repr : List Str := ["self"]
theorem sc_Poly_repr : FnScope ["self"] ["self"] (defScope s_Poly_repr) := ⟨rfl, rfl, rfl, by decide +kernel, rfl, by decide +kernel, by decide +kernel⟩
abbrev s_Poly_terms : Stmt := inClass (top 45) 15
abbrev n_Poly_terms : List Str := ["self", "key"]
theorem sc_Poly_terms : FnScope ["self", "key"] ["self"] (defScope s_Poly_terms) := ⟨rfl, rfl, rfl, by decide +kernel, rfl, by decide +kernel, by decide +kernel⟩
abbrev s_Poly_times : Stmt := inClass (top 45) 17
abbrev n_Poly_times : List Str := ["self", "exponents", "value"]
theorem sc_Poly_times : FnScope ["self", "exponents", "value"] ["self", "exponents", "value"] (defScope s_Poly_times) := ⟨rfl, rfl, rfl, by decide +kernel, rfl, by decide +kernel, by decide +kernel⟩
abbrev s_Poly_value : Stmt := inClass (top 45) 18
abbrev n_Poly_value : List Str := ["self", "point", "found", "key", "value", "number", "exponent", "turn"]
theorem sc_Poly_value : FnScope ["self", "point", "found", "key", "value", "number", "exponent", "turn"] ["self", "point"] (defScope s_Poly_value) := ⟨rfl, rfl, rfl, by decide +kernel, rfl, by decide +kernel, by decide +kernel⟩
abbrev s_Poly_text : Stmt := inClass (top 45) 20
abbrev n_Poly_text : List Str := ["self", "names", "found", "key", "value", "part"]
theorem sc_Poly_text : FnScope ["self", "names", "found", "key", "value", "part"] ["self", "names"] (defScope s_Poly_text) := ⟨rfl, rfl, rfl, by decide +kernel, rfl, by decide +kernel, by decide +kernel⟩
abbrev s_InvalidRatio_init : Stmt := inClass (top 4) 0
theorem es_InvalidRatio : ErrS s_InvalidRatio_init "given" "InvalidRatio" := ⟨⟨_, _, _, _, _, _, _, _, _, _, _, _, _, _, _, rfl, fun env => ⟨_, rfl⟩⟩, ⟨rfl, rfl, rfl, by decide +kernel, by decide +kernel, by decide +kernel, by decide +kernel, rfl, rfl⟩, ⟨_, rfl, rfl⟩, by decide, by decide, fun _ _ _ _ _ _ _ _ us hl => match us, hl with | [_, _], _ => rfl⟩
abbrev s_InvalidTerm_init : Stmt := inClass (top 5) 0
theorem es_InvalidTerm : ErrS s_InvalidTerm_init "at" "InvalidTerm" := ⟨⟨_, _, _, _, _, _, _, _, _, _, _, _, _, _, _, rfl, fun env => ⟨_, rfl⟩⟩, ⟨rfl, rfl, rfl, by decide +kernel, by decide +kernel, by decide +kernel, by decide +kernel, rfl, rfl⟩, ⟨_, rfl, rfl⟩, by decide, by decide, fun _ _ _ _ _ _ _ _ us hl => match us, hl with | [_, _], _ => rfl⟩
abbrev s_Mismatch_init : Stmt := inClass (top 6) 0
theorem es_Mismatch : ErrS s_Mismatch_init "wanted" "Mismatch" := ⟨⟨_, _, _, _, _, _, _, _, _, _, _, _, _, _, _, rfl, fun env => ⟨_, rfl⟩⟩, ⟨rfl, rfl, rfl, by decide +kernel, by decide +kernel, by decide +kernel, by decide +kernel, rfl, rfl⟩, ⟨_, rfl, rfl⟩, by decide, by decide, fun _ _ _ _ _ _ _ _ us hl => match us, hl with | [_, _], _ => rfl⟩
def dd_wall : He5.DefA := ⟨fun K => fAd K ("_wall", none), "_wall", "_wall", defArgs s_wall, defBody s_wall, defScope s_wall, [], []⟩
def dd_greatest_common : He5.DefA := ⟨fun K => fAd K ("greatest_common", none), "greatest_common", "greatest_common", defArgs s_greatest_common, defBody s_greatest_common, defScope s_greatest_common, [], []⟩
def dd_ratio : He5.DefA := ⟨fun K => fAd K ("ratio", none), "ratio", "ratio", defArgs s_ratio, defBody s_ratio, defScope s_ratio, [.int 1], []⟩
def dd_is_ratio : He5.DefA := ⟨fun K => fAd K ("is_ratio", none), "is_ratio", "is_ratio", defArgs s_is_ratio, defBody s_is_ratio, defScope s_is_ratio, [], []⟩
def dd_add : He5.DefA := ⟨fun K => fAd K ("add", none), "add", "add", defArgs s_add, defBody s_add, defScope s_add, [], []⟩
def dd_negated : He5.DefA := ⟨fun K => fAd K ("negated", none), "negated", "negated", defArgs s_negated, defBody s_negated, defScope s_negated, [], []⟩
def dd_multiply : He5.DefA := ⟨fun K => fAd K ("multiply", none), "multiply", "multiply", defArgs s_multiply, defBody s_multiply, defScope s_multiply, [], []⟩
def dd_ratio_text : He5.DefA := ⟨fun K => fAd K ("ratio_text", none), "ratio_text", "ratio_text", defArgs s_ratio_text, defBody s_ratio_text, defScope s_ratio_text, [], []⟩
def dd_order_key : He5.DefA := ⟨fun K => fAd K ("order_key", none), "order_key", "order_key", defArgs s_order_key, defBody s_order_key, defScope s_order_key, [], []⟩
def dd_summed_tables : He5.DefA := ⟨fun K => fAd K ("summed_tables", none), "summed_tables", "summed_tables", defArgs s_summed_tables, defBody s_summed_tables, defScope s_summed_tables, [], []⟩
def dd_shifted_table : He5.DefA := ⟨fun K => fAd K ("shifted_table", none), "shifted_table", "shifted_table", defArgs s_shifted_table, defBody s_shifted_table, defScope s_shifted_table, [], []⟩
def dd_multiplied_tables : He5.DefA := ⟨fun K => fAd K ("multiplied_tables", none), "multiplied_tables", "multiplied_tables", defArgs s_multiplied_tables, defBody s_multiplied_tables, defScope s_multiplied_tables, [], []⟩
def dd_is_key : He5.DefA := ⟨fun K => fAd K ("is_key", none), "is_key", "is_key", defArgs s_is_key, defBody s_is_key, defScope s_is_key, [], []⟩
def dd_of_table : He5.DefA := ⟨fun K => fAd K ("of_table", none), "of_table", "of_table", defArgs s_of_table, defBody s_of_table, defScope s_of_table, [], []⟩
def dd_term_text : He5.DefA := ⟨fun K => fAd K ("term_text", none), "term_text", "term_text", defArgs s_term_text, defBody s_term_text, defScope s_term_text, [], []⟩
def dd_law_feed : He5.DefA := ⟨fun K => fAd K ("_law_feed", none), "_law_feed", "_law_feed", defArgs s_law_feed, defBody s_law_feed, defScope s_law_feed, [], []⟩
def dd_law_take : He5.DefA := ⟨fun K => fAd K ("_law_take", none), "_law_take", "_law_take", defArgs s_law_take, defBody s_law_take, defScope s_law_take, [], []⟩
def dd_law_gcd : He5.DefA := ⟨fun K => fAd K ("_law_gcd", none), "_law_gcd", "_law_gcd", defArgs s_law_gcd, defBody s_law_gcd, defScope s_law_gcd, [], []⟩
def dd_law_low : He5.DefA := ⟨fun K => fAd K ("_law_low", none), "_law_low", "_law_low", defArgs s_law_low, defBody s_law_low, defScope s_law_low, [], []⟩
def dd_law_plus : He5.DefA := ⟨fun K => fAd K ("_law_plus", none), "_law_plus", "_law_plus", defArgs s_law_plus, defBody s_law_plus, defScope s_law_plus, [], []⟩
def dd_law_put_term : He5.DefA := ⟨fun K => fAd K ("_law_put_term", none), "_law_put_term", "_law_put_term", defArgs s_law_put_term, defBody s_law_put_term, defScope s_law_put_term, [], []⟩
def dd_law_number : He5.DefA := ⟨fun K => fAd K ("_law_number", none), "_law_number", "_law_number", defArgs s_law_number, defBody s_law_number, defScope s_law_number, [], []⟩
def dd_law_drawn : He5.DefA := ⟨fun K => fAd K ("_law_drawn", none), "_law_drawn", "_law_drawn", defArgs s_law_drawn, defBody s_law_drawn, defScope s_law_drawn, [], []⟩
def dd_law_poly : He5.DefA := ⟨fun K => fAd K ("_law_poly", none), "_law_poly", "_law_poly", defArgs s_law_poly, defBody s_law_poly, defScope s_law_poly, [], []⟩
def dd_law_pick : He5.DefA := ⟨fun K => fAd K ("_law_pick", none), "_law_pick", "_law_pick", defArgs s_law_pick, defBody s_law_pick, defScope s_law_pick, [], []⟩
def dd_law_small : He5.DefA := ⟨fun K => fAd K ("_law_small", none), "_law_small", "_law_small", defArgs s_law_small, defBody s_law_small, defScope s_law_small, [], []⟩
def dd_law_by : He5.DefA := ⟨fun K => fAd K ("_law_by", none), "_law_by", "_law_by", defArgs s_law_by, defBody s_law_by, defScope s_law_by, [], []⟩
def dd_law_value : He5.DefA := ⟨fun K => fAd K ("_law_value", none), "_law_value", "_law_value", defArgs s_law_value, defBody s_law_value, defScope s_law_value, [], []⟩
def dd_law_same : He5.DefA := ⟨fun K => fAd K ("_law_same", none), "_law_same", "_law_same", defArgs s_law_same, defBody s_law_same, defScope s_law_same, [], []⟩
def dd_law_why : He5.DefA := ⟨fun K => fAd K ("_law_why", none), "_law_why", "_law_why", defArgs s_law_why, defBody s_law_why, defScope s_law_why, [], []⟩
def dd_law : He5.DefA := ⟨fun K => fAd K ("law", none), "law", "law", defArgs s_law, defBody s_law, defScope s_law, [], []⟩
def dd_Poly_init : He5.DefA := ⟨fun K => fAd K ("Poly", some "__init__"), "__init__", "Poly.__init__", defArgs s_Poly_init, defBody s_Poly_init, defScope s_Poly_init, [], []⟩
def dd_Poly_number : He5.DefA := ⟨fun K => He5.wf K (ga K "Poly") "staticmethod" "number", "number", "Poly.number", defArgs s_Poly_number, defBody s_Poly_number, defScope s_Poly_number, [], []⟩
def dd_Poly_unknown : He5.DefA := ⟨fun K => He5.wf K (ga K "Poly") "staticmethod" "unknown", "unknown", "Poly.unknown", defArgs s_Poly_unknown, defBody s_Poly_unknown, defScope s_Poly_unknown, [], []⟩
def dd_Poly_many : He5.DefA := ⟨fun K => He5.wf K (ga K "Poly") "property" "many", "many", "Poly.many", defArgs s_Poly_many, defBody s_Poly_many, defScope s_Poly_many, [], []⟩
def dd_Poly_degree : He5.DefA := ⟨fun K => He5.wf K (ga K "Poly") "property" "degree", "degree", "Poly.degree", defArgs s_Poly_degree, defBody s_Poly_degree, defScope s_Poly_degree, [], []⟩
def dd_Poly_need_like : He5.DefA := ⟨fun K => fAd K ("Poly", some "need_like"), "need_like", "Poly.need_like", defArgs s_Poly_need_like, defBody s_Poly_need_like, defScope s_Poly_need_like, [], []⟩
def dd_Poly_add : He5.DefA := ⟨fun K => fAd K ("Poly", some "__add__"), "__add__", "Poly.__add__", defArgs s_Poly_add, defBody s_Poly_add, defScope s_Poly_add, [], []⟩
def dd_Poly_neg : He5.DefA := ⟨fun K => fAd K ("Poly", some "__neg__"), "__neg__", "Poly.__neg__", defArgs s_Poly_neg, defBody s_Poly_neg, defScope s_Poly_neg, [], []⟩
def dd_Poly_sub : He5.DefA := ⟨fun K => fAd K ("Poly", some "__sub__"), "__sub__", "Poly.__sub__", defArgs s_Poly_sub, defBody s_Poly_sub, defScope s_Poly_sub, [], []⟩
def dd_Poly_mul : He5.DefA := ⟨fun K => fAd K ("Poly", some "__mul__"), "__mul__", "Poly.__mul__", defArgs s_Poly_mul, defBody s_Poly_mul, defScope s_Poly_mul, [], []⟩
def dd_Poly_eq : He5.DefA := ⟨fun K => fAd K ("Poly", some "__eq__"), "__eq__", "Poly.__eq__", defArgs s_Poly_eq, defBody s_Poly_eq, defScope s_Poly_eq, [], []⟩
def dd_Poly_bool : He5.DefA := ⟨fun K => fAd K ("Poly", some "__bool__"), "__bool__", "Poly.__bool__", defArgs s_Poly_bool, defBody s_Poly_bool, defScope s_Poly_bool, [], []⟩
def dd_Poly_len : He5.DefA := ⟨fun K => fAd K ("Poly", some "__len__"), "__len__", "Poly.__len__", defArgs s_Poly_len, defBody s_Poly_len, defScope s_Poly_len, [], []⟩
def dd_Poly_repr : He5.DefA := ⟨fun K => fAd K ("Poly", some "__repr__"), "__repr__", "Poly.__repr__", defArgs s_Poly_repr, defBody s_Poly_repr, defScope s_Poly_repr, [], []⟩
def dd_Poly_terms : He5.DefA := ⟨fun K => fAd K ("Poly", some "terms"), "terms", "Poly.terms", defArgs s_Poly_terms, defBody s_Poly_terms, defScope s_Poly_terms, [], []⟩
def dd_Poly_times : He5.DefA := ⟨fun K => fAd K ("Poly", some "times"), "times", "Poly.times", defArgs s_Poly_times, defBody s_Poly_times, defScope s_Poly_times, [], []⟩
def dd_Poly_value : He5.DefA := ⟨fun K => fAd K ("Poly", some "value"), "value", "Poly.value", defArgs s_Poly_value, defBody s_Poly_value, defScope s_Poly_value, [], []⟩
def dd_Poly_text : He5.DefA := ⟨fun K => fAd K ("Poly", some "text"), "text", "Poly.text", defArgs s_Poly_text, defBody s_Poly_text, defScope s_Poly_text, [], []⟩
def fn : List He5.DefA := [dd_wall, dd_greatest_common, dd_ratio, dd_is_ratio, dd_add, dd_negated, dd_multiply, dd_ratio_text, dd_order_key, dd_summed_tables, dd_shifted_table, dd_multiplied_tables, dd_is_key, dd_of_table, dd_term_text, dd_law_feed, dd_law_take, dd_law_gcd, dd_law_low, dd_law_plus, dd_law_put_term, dd_law_number, dd_law_drawn, dd_law_poly, dd_law_pick, dd_law_small, dd_law_by, dd_law_value, dd_law_same, dd_law_why, dd_law, dd_Poly_init, dd_Poly_number, dd_Poly_unknown, dd_Poly_many, dd_Poly_degree, dd_Poly_need_like, dd_Poly_add, dd_Poly_neg, dd_Poly_sub, dd_Poly_mul, dd_Poly_eq, dd_Poly_bool, dd_Poly_len, dd_Poly_repr, dd_Poly_terms, dd_Poly_times, dd_Poly_value, dd_Poly_text]
def fa : List He.Fa := [.glo "_wall", .glo "greatest_common", .glo "ratio", .glo "is_ratio", .glo "add", .glo "negated", .glo "multiply", .glo "ratio_text", .glo "order_key", .glo "summed_tables", .glo "shifted_table", .glo "multiplied_tables", .glo "is_key", .glo "of_table", .glo "term_text", .glo "_law_feed", .glo "_law_take", .glo "_law_gcd", .glo "_law_low", .glo "_law_plus", .glo "_law_put_term", .glo "_law_number", .glo "_law_drawn", .glo "_law_poly", .glo "_law_pick", .glo "_law_small", .glo "_law_by", .glo "_law_value", .glo "_law_same", .glo "_law_why", .glo "law", .glo "InvalidRatio", .glo "InvalidTerm", .glo "Mismatch", .glo "NoLead", .glo "ParseError", .glo "InvalidLetters", .glo "InvalidBegin", .glo "InvalidMode", .glo "InvalidGuard", .glo "UnknownLetter", .glo "LettersDiffer", .glo "InvalidRecoding", .glo "NoText", .glo "InvalidDegree", .glo "Fails", .glo "InvalidName", .glo "DuplicateName", .glo "WrongSort", .glo "CapacityExceeded", .glo "InvalidLimit", .glo "InvalidCommand", .glo "InUse", .glo "UnknownName", .glo "NothingLeft", .free "ValueError", .free "LookupError", .free "IndexError", .free "staticmethod", .free "property", .free "zip", .free "list", .free "range", .free "isinstance", .free "abs", .free "str", .free "sum", .free "tuple", .free "all", .free "enumerate", .free "max", .free "len", .free "int", .free "bool", .free "super", .free "sorted", .exm "InvalidRatio" "InvalidRatio" true, .exm "InvalidRatio" "InvalidTerm" false, .exm "InvalidRatio" "Mismatch" false, .exm "InvalidRatio" "NoLead" false, .exm "InvalidRatio" "ParseError" false, .exm "InvalidRatio" "InvalidLetters" false, .exm "InvalidRatio" "InvalidBegin" false, .exm "InvalidRatio" "InvalidMode" false, .exm "InvalidRatio" "InvalidGuard" false, .exm "InvalidRatio" "UnknownLetter" false, .exm "InvalidRatio" "LettersDiffer" false, .exm "InvalidRatio" "InvalidRecoding" false, .exm "InvalidRatio" "NoText" false, .exm "InvalidRatio" "InvalidDegree" false, .exm "InvalidRatio" "Fails" false, .exm "InvalidRatio" "InvalidName" false, .exm "InvalidRatio" "DuplicateName" false, .exm "InvalidRatio" "WrongSort" false, .exm "InvalidRatio" "CapacityExceeded" false, .exm "InvalidRatio" "InvalidLimit" false, .exm "InvalidRatio" "InvalidCommand" false, .exm "InvalidRatio" "InUse" false, .exm "InvalidRatio" "UnknownName" false, .exm "InvalidRatio" "NothingLeft" false, .exm "InvalidTerm" "InvalidRatio" false, .exm "InvalidTerm" "InvalidTerm" true, .exm "InvalidTerm" "Mismatch" false, .exm "InvalidTerm" "NoLead" false, .exm "InvalidTerm" "ParseError" false, .exm "InvalidTerm" "InvalidLetters" false, .exm "InvalidTerm" "InvalidBegin" false, .exm "InvalidTerm" "InvalidMode" false, .exm "InvalidTerm" "InvalidGuard" false, .exm "InvalidTerm" "UnknownLetter" false, .exm "InvalidTerm" "LettersDiffer" false, .exm "InvalidTerm" "InvalidRecoding" false, .exm "InvalidTerm" "NoText" false, .exm "InvalidTerm" "InvalidDegree" false, .exm "InvalidTerm" "Fails" false, .exm "InvalidTerm" "InvalidName" false, .exm "InvalidTerm" "DuplicateName" false, .exm "InvalidTerm" "WrongSort" false, .exm "InvalidTerm" "CapacityExceeded" false, .exm "InvalidTerm" "InvalidLimit" false, .exm "InvalidTerm" "InvalidCommand" false, .exm "InvalidTerm" "InUse" false, .exm "InvalidTerm" "UnknownName" false, .exm "InvalidTerm" "NothingLeft" false, .exm "Mismatch" "InvalidRatio" false, .exm "Mismatch" "InvalidTerm" false, .exm "Mismatch" "Mismatch" true, .exm "Mismatch" "NoLead" false, .exm "Mismatch" "ParseError" false, .exm "Mismatch" "InvalidLetters" false, .exm "Mismatch" "InvalidBegin" false, .exm "Mismatch" "InvalidMode" false, .exm "Mismatch" "InvalidGuard" false, .exm "Mismatch" "UnknownLetter" false, .exm "Mismatch" "LettersDiffer" false, .exm "Mismatch" "InvalidRecoding" false, .exm "Mismatch" "NoText" false, .exm "Mismatch" "InvalidDegree" false, .exm "Mismatch" "Fails" false, .exm "Mismatch" "InvalidName" false, .exm "Mismatch" "DuplicateName" false, .exm "Mismatch" "WrongSort" false, .exm "Mismatch" "CapacityExceeded" false, .exm "Mismatch" "InvalidLimit" false, .exm "Mismatch" "InvalidCommand" false, .exm "Mismatch" "InUse" false, .exm "Mismatch" "UnknownName" false, .exm "Mismatch" "NothingLeft" false, .glo "ZERO", .glo "ONE", .glo "Poly", .cls "Poly", .mkr "Poly", .meth "Poly" "__init__", .meth "Poly" "need_like", .meth "Poly" "__add__", .meth "Poly" "__neg__", .meth "Poly" "__sub__", .meth "Poly" "__mul__", .meth "Poly" "__eq__", .meth "Poly" "__bool__", .meth "Poly" "__len__", .meth "Poly" "__repr__", .meth "Poly" "terms", .meth "Poly" "times", .meth "Poly" "value", .meth "Poly" "text", .noat "Poly" "width", .noat "Poly" "table"]
def tf : List He.Defn := [("law", none)]
def ex (K : PySem.W.Frag) : Bool := errB K "InvalidRatio" (some "given") "/claim/cut.py" && (errB K "InvalidTerm" (some "at") "/claim/cut.py" && (errB K "Mismatch" (some "wanted") "/claim/cut.py" && (conB K (ga K "Poly") "MOST" 16 && (clsB K (ga K "Poly") && (statB K (ga K "Poly") "number" && (statB K (ga K "Poly") "unknown" && (propB K (ga K "Poly") "many" && (propB K (ga K "Poly") "degree" && (tupB K "ZERO" [.int 0, .int 1] && (tupB K "ONE" [.int 1, .int 1] && (true)))))))))))
def fs : List (Str × Str) := [("InvalidRatio", "__init__"), ("InvalidTerm", "__init__"), ("Mismatch", "__init__")]
def vs := [stVal "InvalidRatio.__init__" s_InvalidRatio_init, stVal "InvalidTerm.__init__" s_InvalidTerm_init, stVal "Mismatch.__init__" s_Mismatch_init]
def loose0 : List PySem.Str := ["TailError", "Missing", "InvalidRatio", "InvalidTerm", "Mismatch", "NoLead", "ParseError", "InvalidLetters", "InvalidBegin", "InvalidMode", "InvalidGuard", "UnknownLetter"]
def loose1 : List PySem.Str := ["LettersDiffer", "InvalidRecoding", "NoText", "InvalidDegree", "Fails", "InvalidName", "DuplicateName", "WrongSort", "CapacityExceeded", "InvalidLimit", "InvalidCommand", "InUse"]
def loose2 : List PySem.Str := ["UnknownName", "NothingLeft", "Poly", "ZERO", "ONE", "_wall", "greatest_common", "ratio", "is_ratio", "add", "negated", "multiply"]
def loose3 : List PySem.Str := ["ratio_text", "order_key", "summed_tables", "shifted_table", "multiplied_tables", "is_key", "of_table", "term_text", "_law_feed", "_law_take", "_law_gcd", "_law_low"]
def loose4 : List PySem.Str := ["_law_plus", "_law_put_term", "_law_number", "_law_drawn", "_law_poly", "_law_pick", "_law_small", "_law_by", "_law_value", "_law_same", "_law_why"]
abbrev R : PySem.W.OpenRow := PySem.W.OpenLaw.row PySem.Challenge.rw_copytail_k07_values_at_points
def ads : List Addr := [2, 3, 21, 31, 66, 87, 108, 129, 150, 171, 192, 213, 234, 255, 276, 297, 318, 339, 360, 381, 402, 423, 444, 465, 486, 507, 528, 549, 553, 554, 561, 569, 576, 583, 590, 597, 604, 611, 616, 621, 626, 631, 638, 790, 801, 808, 815, 822, 829, 836, 843, 850, 857, 862, 869, 876, 883, 890, 895, 902, 907, 20, 30, 65, 86, 107, 560, 568, 562, 575, 582, 589, 596, 603, 610, 615, 620, 625, 630, 637, 789, 800, 807, 814, 821, 828, 835, 842, 849, 856, 861, 868, 875, 882, 889, 894, 901, 906, 63, 84, 105, 652, 661, 671, 680, 686, 693, 700, 705, 712, 719, 726, 733, 740, 747, 752, 766, 773, 787, 62, 51, 83, 72, 104, 93, 651, 659, 669, 679, 685, 692, 699, 704, 711, 718, 725, 732, 739, 746, 751, 765, 772, 786, 658, 668, 678, 684]
abbrev hk : PySem.W.Hook := hookL ads fa fn tf ex fs vs
def ob (s : PySem.W.SharedT) := obsL ads fa fn tf ex fs (HandSHeadRun.getT s)
theorem ob_eq (s : PySem.W.SharedT) : ob s = hk.obs s.abs := obsL_eq (vs := vs) (HandSHeadRun.getT_eq s)
def loose : List PySem.Str := loose0 ++ loose1 ++ loose2 ++ loose3 ++ loose4
theorem run (w : World) : HandSHeadRun.RunEq R (PySem.W.view R.prog [63]) hk ob 9800 loose w := by
  intro os
  kernel_rfl
end CT
/-! Promises by names, short rules. -/
namespace CT
open PySem PySem.Spec PySem.Calls PyProof.Rows L2 He

/-- the def named n stands behind the top and keeps sp -/
def FOkX (CX : CXT) (P : Program) (w : World) (K : PySem.W.Frag) (mg : Str → Option Value) (base : Heap) (k : Nat) (n : Str) (ps : List Str) (sp : Sp) : Prop :=
  mg n = some (.ref (ga K n)) ∧ PySem.W.keepIn K (.ref (ga K n)) = true ∧ ∃ fd, FnOk P w K mg base CX k (ga K n) fd ps sp ∧ Binds K fd ps []
abbrev FOk (P : Program) (w : World) (K : PySem.W.Frag) (mg : Str → Option Value) (base : Heap) (k : Nat) (n : Str) (ps : List Str) (sp : Sp) : Prop := FOkX CX0 P w K mg base k n ps sp
/-- the def named n is the statement st -/
structure Dn (K : PySem.W.Frag) (mg : Str → Option Value) (n : Str) (st : Stmt) (dvs : List V) : Prop where
  f : ∃ fd, FunD K n n (defArgs st) (defBody st) (defScope st) dvs [] (ga K n) fd
  g : mg n = some (.ref (ga K n))
section
variable {P : Program} {w : World} {K : PySem.W.Frag} {mg : Str → Option Value} {base : Heap} {n : Str} {st : Stmt} {CX : CXT} {N ps : List Str} {k : Nat} {sp : Sp}
theorem Dn.okX (D : Dn K mg n st []) (S : FnScope N ps (defScope st)) (bind : ∀ (kV doc pm : Value) (an : Option Addr) (cdv ct : Value) (us : List Value), us.length = ps.length → bindArgs (PySem.W.fnOf n n (defArgs st) (defBody st) (defScope st) .none kV doc pm an cdv ct) ⟨us, []⟩ = pure (ps.zip us))
    (len : ∀ vs H Q E, sp vs H Q E → vs.length = ps.length)
    (hbody : ∀ (cdv : Value) (A : Around) (outer : List Env) (s : Shared) (H : Hp) (vs : List V) (Q : VK) (E : XK), Room k (A.deeper (envOfC n (defScope st) s.heap.objs.size (ga K n) cdv)) → sp vs H Q E →
      ∃ t, PSs (cxOf CX P w K mg base N n (defScope st) (ga K n) cdv A outer s H E) (defBody st) t ∧ t { nx := fun _ H' => Q .non H', rt := Q } (L2.start N vs) H) : FOkX CX P w K mg base (k + 1) n ps sp := by
  obtain ⟨fd, F⟩ := D.f
  exact ⟨D.g, F.kp, fd, F.ok S len hbody, F.bindsN bind⟩
theorem Dn.ok (D : Dn K mg n st []) (S : FnScope N ps (defScope st)) (bind : ∀ (kV doc pm : Value) (an : Option Addr) (cdv ct : Value) (us : List Value), us.length = ps.length → bindArgs (PySem.W.fnOf n n (defArgs st) (defBody st) (defScope st) .none kV doc pm an cdv ct) ⟨us, []⟩ = pure (ps.zip us))
    (len : ∀ vs H Q E, sp vs H Q E → vs.length = ps.length)
    (hbody : ∀ (cdv : Value) (A : Around) (outer : List Env) (s : Shared) (H : Hp) (vs : List V) (Q : VK) (E : XK), Room k (A.deeper (envOfC n (defScope st) s.heap.objs.size (ga K n) cdv)) → sp vs H Q E →
      ∃ t, PSs (cxOf CX0 P w K mg base N n (defScope st) (ga K n) cdv A outer s H E).nox (defBody st) t ∧ t { nx := fun _ H' => Q .non H', rt := Q } (L2.start N vs) H) : FOk P w K mg base (k + 1) n ps sp :=
  D.okX S bind len fun cdv A outer s H vs Q E hr h => by
    obtain ⟨t, ht, hq⟩ := hbody cdv A outer s H vs Q E hr h
    exact ⟨t, ht.nox, hq⟩
theorem FOkX.mono {j : Nat} (F : FOkX CX P w K mg base j n ps sp) (h : j ≤ k) : FOkX CX P w K mg base k n ps sp := by
  obtain ⟨a, b, fd, F, B⟩ := F
  exact ⟨a, b, fd, F.mono h, B⟩
theorem FOkX.imp {sp' : Sp} (F : FOkX CX P w K mg base k n ps sp) (h : ∀ vs H Q E, sp' vs H Q E → sp vs H Q E) : FOkX CX P w K mg base k n ps sp' := by
  obtain ⟨a, b, fd, F, B⟩ := F
  exact ⟨a, b, fd, F.imp h, B⟩
end
section
variable {X : Cx} {n : Str} {ps : List Str} {sp : Sp} {k : Nat} {p pos : Pos} {e : Expr} {es : List Expr} {t : TA} {u : Value} {v : V}
/-- f(e, ..), f lets nothing out -/
theorem pe_callF (F : FOk X.prog X.w X.K X.mg X.base k n ps sp) (hr : Room k X.A) (ha : PA X (e :: es) t) (hg : Gl X n := by rfl) (hdb : (n == ("__debug__" : Str)) = false := by decide)
    (he : starEach (e :: es) X.env = (false, eval e X.env) :: starEach es X.env := by rfl) (hpl : (backTo pos (starEach es X.env)).any (·.1) = false := by rfl) : PE X (.Call (.Name n p) (e :: es) [] pos) (tCall sp [] E0 t) := by
  obtain ⟨g, kp, fd, F, b⟩ := F
  exact pe_call F hr hg g kp b .nil pass0 ha hdb he hpl
/-- f(e, ..), f may let something out: tk tells what is wished -/
theorem pe_callE {CX : CXT} {E : XK} (F : FOkX CX X.prog X.w X.K X.mg X.base k n ps sp) (hx : Passes CX X E) (hr : Room k X.A) (ha : PA X (e :: es) t) (hg : Gl X n := by rfl) (hdb : (n == ("__debug__" : Str)) = false := by decide)
    (he : starEach (e :: es) X.env = (false, eval e X.env) :: starEach es X.env := by rfl) (hpl : (backTo pos (starEach es X.env)).any (·.1) = false := by rfl) : PE X (.Call (.Name n p) (e :: es) [] pos) (tCall sp [] E t) := by
  obtain ⟨g, kp, fd, F, b⟩ := F
  exact pe_call F hr hg g kp b .nil hx ha hdb he hpl
/-- a built-in class as a value -/
theorem pe_bty {T : String} {x : Str} (hm : X.mg x = none) (hg : Gl X x := by rfl) (hv : bootBuiltins x = some (.type T) := by decide +kernel) (hn : x ≠ "__name__" := by decide) (hd : (x == ("__debug__" : Str)) = false := by decide) : PE X (.Name x pos) (tC (.ty T)) :=
  pe_bltn hg hm hv rfl hn hd
/-- a module's constant -/
theorem pe_gl {x : Str} (h : ∃ u, X.mg x = some u ∧ RelV v u) (hg : Gl X x := by rfl) (hd : (x == ("__debug__" : Str)) = false := by decide) : PE X (.Name x pos) (tC v) := by
  obtain ⟨u, h1, h2⟩ := h
  exact pe_glob hg h1 h2 hd
/-- // by a divisor of either sign -/
def CDivZ (_ j : Int) : Prop := j ≠ 0 ∧ j.natAbs.log2 < 9000
theorem op_fdivZ : OpR X (binaryOp .FloorDiv) (rI CDivZ fun i j => .int (i.fdiv j)) := opI fun i j _ _ _ _ _ hc q => floordiv_int hc.1 q (.inl (PyProof.noPylong_of_log2 hc.2))
theorem divz {i j : Int} {b : Nat} (h : j ≠ 0) (hb : j.natAbs < 2 ^ b) (h0 : 0 < b) (h9 : b ≤ 9000) : CDivZ i j := ⟨h, Nat.lt_of_lt_of_le (PySem.Flt.log2_lt_of h0 hb) h9⟩
end
end CT
namespace CT
theorem itT {c : Bool} {A B : Prop} (hc : c = true) (h : A) : if c = true then A else B := by
  rw [if_pos hc]
  exact h
theorem itF {c : Bool} {A B : Prop} (hc : c = false) (h : B) : if c = true then A else B := by
  rw [if_neg (by rw [hc]; decide)]
  exact h
/-- both ways -/
theorem it2 {c : Bool} {A B : Prop} (h1 : c = true → A) (h2 : c = false → B) : if c = true then A else B := by
  cases c with
  | true => exact itT rfl (h1 rfl)
  | false => exact itF rfl (h2 rfl)
theorem itD {p : Prop} [Decidable p] {A B : Prop} (h1 : p → A) (h2 : ¬ p → B) : if decide p = true then A else B := it2 (fun e => h1 (of_decide_eq_true e)) fun e => h2 (of_decide_eq_false e)
end CT
namespace CT
open PySem
theorem sl (n : Nat) (h : n ≤ 100000 := by decide) : n ≤ sizeLine := Nat.le_trans h (by decide)
theorem slt (n : Nat) (h : n < 100000 := by decide) : n < sizeLine := Nat.lt_of_lt_of_le h (by decide)
end CT
namespace CT
open PySem PySem.Spec PySem.Calls PyProof.Rows L2
section
variable {X : Cx}
/-- a statement, then the rest, with a word between them -/
def tCut (t u : TS) : TS := fun D σ H => ∃ Mid : L2.St → Hp → Prop, t { D with nx := Mid } σ H ∧ ∀ σ' H', Mid σ' H' → u D σ' H'
theorem pss_cut {st : Stmt} {rest : List Stmt} {t u : TS} (h1 : PS X st t) (h2 : PSs X rest u) : PSs X (st :: rest) (tCut t u) := by
  refine ⟨fun pins s σ H D I h => ?_⟩
  obtain ⟨Mid, hm, hu⟩ := h
  refine wpAny_execs_cons (thn (h1.run pins s σ H { D with nx := Mid } I hm) fun f s1 q => ?_)
  cases f with
  | next =>
    obtain ⟨σ', H', I', q⟩ := q
    exact h2.run pins s1 σ' H' D I' (hu σ' H' q)
  | ret v => exact q
  | brk => exact q
  | cont => exact q
/-- a value, with a word behind it -/
def tMid (t : TE) : TE := fun σ H Q => ∃ Mid : VK, t σ H Mid ∧ ∀ v H', Mid v H' → Q v H'
theorem pe_mid {e : Expr} {t : TE} (h : PE X e t) : PE X e (tMid t) := by
  refine ⟨fun pins s σ H Q I hq => ?_⟩
  obtain ⟨Mid, hm, hu⟩ := hq
  exact thn (h.run pins s σ H Mid I hm) fun v s1 ⟨x, H1, I1, r1, q1⟩ => ⟨x, H1, I1, r1, hu _ _ q1⟩
end
end CT
namespace CT
open PySem PySem.Spec PySem.Calls PyProof.Rows L2
/-! ### equal data -/
def flat : V → Bool
  | .non | .bl _ | .int _ | .str _ => true
  | _ => false
/-- x and y hold equal data, at most n lists or tuples deep -/
def EqD (K : PySem.W.Frag) (H : Hp) : Nat → V → V → Prop
  | 0, x, y => x = y ∧ flat x = true
  | n + 1, x, y => (x = y ∧ flat x = true) ∨ ∃ (a b : Addr) (xs ys : List V), x = .ref a ∧ y = .ref b ∧ ((SqT K H a xs ∧ SqT K H b ys) ∨ (SqL K H a xs ∧ SqL K H b ys)) ∧ xs.length = ys.length ∧ xs.length ≤ 10000 ∧ ∀ (i : Nat) (x y : V), xs[i]? = some x → ys[i]? = some y → EqD K H n x y
theorem sqL_same {K : PySem.W.Frag} {H H' : Hp} {a : Addr} {xs : List V} (e : Same H H') (h : SqL K H a xs) : SqL K H' a xs := e.seq h
theorem sqT_same {K : PySem.W.Frag} {H H' : Hp} {a : Addr} {xs : List V} (e : Same H H') (h : SqT K H a xs) : SqT K H' a xs := by
  rcases h with (h | ⟨o, h⟩) | h
  · exact .inl (.inl (e _ _ h))
  · exact .inl (.inr ⟨o, e _ _ h⟩)
  · exact .inr h
theorem EqD.same {K : PySem.W.Frag} {H H' : Hp} (e : Same H H') : ∀ {n : Nat} {x y : V}, EqD K H n x y → EqD K H' n x y
  | 0, _, _, h => h
  | n + 1, x, y, h => by
    rcases h with h | ⟨a, b, xs, ys, h1, h2, h3, h4, h5, h6⟩
    · exact .inl h
    · refine .inr ⟨a, b, xs, ys, h1, h2, ?_, h4, h5, fun i x y q1 q2 => EqD.same e (h6 i x y q1 q2)⟩
      rcases h3 with ⟨q1, q2⟩ | ⟨q1, q2⟩
      · exact .inl ⟨sqT_same e q1, sqT_same e q2⟩
      · exact .inr ⟨sqL_same e q1, sqL_same e q2⟩
theorem EqD.up {K : PySem.W.Frag} {H : Hp} : ∀ {n : Nat} {x y : V}, EqD K H n x y → EqD K H (n + 1) x y
  | 0, _, _, h => .inl h
  | n + 1, x, y, h => by
    rcases h with h | ⟨a, b, xs, ys, h1, h2, h3, h4, h5, h6⟩
    · exact .inl h
    · exact .inr ⟨a, b, xs, ys, h1, h2, h3, h4, h5, fun i x y q1 q2 => (h6 i x y q1 q2).up⟩
theorem EqD.flat {K : PySem.W.Frag} {H : Hp} {x : V} (h : flat x = true) : ∀ {n : Nat}, EqD K H n x x
  | 0 => ⟨rfl, h⟩
  | _ + 1 => .inl ⟨rfl, h⟩
theorem same_new {H : Hp} {p : Addr} {o : HO} (h : H p = none) : Same H (upd H p o) := fun b x e => by
  rw [upd_ne (ne_of_none e h)]
  exact e
end CT
namespace CT
open PySem
theorem slt' {n : Nat} (h : n ≤ 20000) : n < sizeLine := Nat.lt_of_le_of_lt h (by decide)
theorem all_rep (n : Nat) : (List.replicate n true).all id = true := by
  rw [List.all_eq_true]
  intro x hx
  exact (List.eq_of_mem_replicate hx)
end CT
namespace CT
open PySem PySem.Spec PySem.Calls PyProof.Rows L2
theorem vals_rev : ∀ {vs : List V} {us : List Value}, Vals vs us → Vals vs.reverse us.reverse
  | _, _, .nil => .nil
  | _, _, .cons r t => by
    rw [List.reverse_cons, List.reverse_cons]
    exact (vals_rev t).append (.cons r .nil)
end CT
namespace CT
open PySem PySem.Spec PySem.Calls PyProof.Rows L2
/-! ### new tuples and lists, the heap behind them by what stays -/
def tTupA (t : TA) : TE := fun σ H Q => t σ H fun xs H1 => xs.length ≤ sizeLine ∧ ∀ p H2, H1 p = none → Same H1 H2 → H2 p = some (.tup xs) → Q (.ref p) H2
def tLstA (t : TA) : TE := fun σ H Q => t σ H fun xs H1 => xs.length ≤ sizeLine ∧ ∀ p H2, H1 p = none → Same H1 H2 → H2 p = some (.lst xs) → Q (.ref p) H2
section
variable {X : Cx} {es : List Expr} {t : TA} {pos : Pos}
/-- the items, with a word behind them -/
def tMidA (t : TA) : TA := fun σ H Q => ∃ Mid : List V → Hp → Prop, t σ H Mid ∧ ∀ xs H1, Mid xs H1 → Q xs H1
theorem pa_mid (h : PA X es t) : PA X es (tMidA t) := by
  refine ⟨fun q pins s σ H Q I hq => ?_⟩
  obtain ⟨Mid, hm, hu⟩ := hq
  exact thn (h.run q pins s σ H Mid I hm) fun us s1 ⟨xs, H1, I1, r1, q1⟩ => ⟨xs, H1, I1, r1, hu _ _ q1⟩
theorem pe_tupA {x1} (h : PA X es t) : PE X (.Tuple es x1 pos) (tTupA t) :=
  ⟨fun pins s σ H Q I hq => (pe_tup (pa_mid h)).run pins s σ H Q I ⟨_, hq, fun xs H1 hm => ⟨hm.1, fun p hp => hm.2 p _ hp (same_new hp) upd_same⟩⟩⟩
theorem pe_lstA (h : PA X es t) : PE X (.List es pos) (tLstA t) :=
  ⟨fun pins s σ H Q I hq => (pe_lst (pa_mid h)).run pins s σ H Q I ⟨_, hq, fun xs H1 hm => ⟨hm.1, fun p hp => hm.2 p _ hp (same_new hp) upd_same⟩⟩⟩
end
end CT
namespace CT
open PySem PySem.Spec PySem.Calls PyProof.Rows L2
def EqA (K : PySem.W.Frag) (H : Hp) (n : Nat) : List V → List V → Prop
  | [], [] => True
  | x :: xs, y :: ys => EqD K H n x y ∧ EqA K H n xs ys
  | _, _ => False
theorem EqA.len {K : PySem.W.Frag} {H : Hp} {n : Nat} : ∀ {xs ys : List V}, EqA K H n xs ys → xs.length = ys.length
  | [], [], _ => rfl
  | _ :: xs, _ :: ys, h => congrArg Nat.succ (EqA.len h.2)
theorem EqA.get {K : PySem.W.Frag} {H : Hp} {n : Nat} : ∀ {xs ys : List V}, EqA K H n xs ys → ∀ (i : Nat) (x y : V), xs[i]? = some x → ys[i]? = some y → EqD K H n x y
  | _ :: _, _ :: _, h, 0, _, _, q1, q2 => by
    cases q1
    cases q2
    exact h.1
  | _ :: xs, _ :: ys, h, i + 1, x, y, q1, q2 => EqA.get h.2 i x y q1 q2
theorem eqT {K : PySem.W.Frag} {H : Hp} {n : Nat} {a b : Addr} {xs ys : List V} (ha : SqT K H a xs) (hb : SqT K H b ys) (h : EqA K H n xs ys) (hl : xs.length ≤ 10000 := by exact Nat.le_of_ble_eq_true rfl) : EqD K H (n + 1) (.ref a) (.ref b) :=
  .inr ⟨a, b, xs, ys, rfl, rfl, .inl ⟨ha, hb⟩, h.len, hl, fun i x y => h.get i x y⟩
theorem eqL {K : PySem.W.Frag} {H : Hp} {n : Nat} {a b : Addr} {xs ys : List V} (ha : SqL K H a xs) (hb : SqL K H b ys) (h : EqA K H n xs ys) (hl : xs.length ≤ 10000 := by exact Nat.le_of_ble_eq_true rfl) : EqD K H (n + 1) (.ref a) (.ref b) :=
  .inr ⟨a, b, xs, ys, rfl, rfl, .inr ⟨ha, hb⟩, h.len, hl, fun i x y => h.get i x y⟩
/-- two new tuples, lists with the same items -/
theorem eqT2 {K : PySem.W.Frag} {H : Hp} {n : Nat} {a b : Addr} {xs ys : List V} (ha : H a = some (.tup xs)) (hb : H b = some (.tup ys)) (h : EqA K H n xs ys) (hl : xs.length ≤ 10000 := by exact Nat.le_of_ble_eq_true rfl) : EqD K H (n + 1) (.ref a) (.ref b) := eqT (.inl (.of ha)) (.inl (.of hb)) h hl
theorem eqL2 {K : PySem.W.Frag} {H : Hp} {n : Nat} {a b : Addr} {xs ys : List V} (ha : H a = some (.lst xs)) (hb : H b = some (.lst ys)) (h : EqA K H n xs ys) (hl : xs.length ≤ 10000 := by exact Nat.le_of_ble_eq_true rfl) : EqD K H (n + 1) (.ref a) (.ref b) := eqL (.inl (.of ha)) (.inl (.of hb)) h hl
theorem eqI {K : PySem.W.Frag} {H : Hp} {n : Nat} {i j : Int} (h : i = j) : EqD K H n (.int i) (.int j) := by
  rw [h]
  exact EqD.flat rfl
theorem eqB {K : PySem.W.Frag} {H : Hp} {n : Nat} {i j : Bool} (h : i = j) : EqD K H n (.bl i) (.bl j) := by
  rw [h]
  exact EqD.flat rfl
theorem eqS {K : PySem.W.Frag} {H : Hp} {n : Nat} {i j : Str} (h : i = j) : EqD K H n (.str i) (.str j) := by
  rw [h]
  exact EqD.flat rfl
end CT

/-! Plain laws of numbers. -/
namespace CT
open PySem L2
/-- the bound of the numbers at hand -/
def Big (z : Int) : Prop := z.natAbs < 2 ^ 4000
theorem Big.div {j : Int} (h : j ≠ 0) (b : Big j) : j ≠ 0 ∧ j.natAbs.log2 < 9000 := ⟨h, Nat.lt_of_lt_of_le (PySem.Flt.log2_lt_of (by decide) b) (by decide)⟩
theorem Big.divW {i j : Int} (h : 0 < j) (b : Big j) : CDivW i j := wide_div h b (by decide) (by decide)
theorem Big.mulW {i j : Int} (a : Big i) (b : Big j) : CMulW i j := wide_mul a b (by decide) (by decide) (by decide)
theorem Big.le {i j : Int} (b : Big j) (h : i.natAbs ≤ j.natAbs) : Big i := Nat.lt_of_le_of_lt h b
theorem Big.abs {i : Int} (b : Big i) : Big (if i < 0 then -i else i) := Big.le b (by split <;> omega)
theorem abs_eq (i : Int) : (if i < 0 then -i else i) = (i.natAbs : Int) := by split <;> omega
theorem gcd_step (x y : Int) : Int.gcd y (x % y) = Int.gcd x y := by
  rw [Int.gcd_comm x y]
  have e : x % y = x + -(x / y) * y := by
    have := Int.emod_add_mul_ediv x y
    rw [Int.neg_mul, Int.mul_comm (x / y) y]
    omega
  rw [e]
  exact Int.gcd_add_mul_right_right y x (-(x / y))
theorem gcd_abs (a b : Int) : Int.gcd (if a < 0 then -a else a) (if b < 0 then -b else b) = Int.gcd a b := by
  rw [abs_eq, abs_eq]
  rfl
theorem gcd_end (x : Int) (h : 0 ≤ x) : ((Int.gcd x 0 : Nat) : Int) = x := by
  rw [Int.gcd_zero_right]
  omega
theorem fdiv_rest {x y : Int} : x - x / y * y = x % y := by
  have := Int.emod_add_mul_ediv x y
  rw [Int.mul_comm (x / y) y]
  omega
theorem big_gcd {a b : Int} (ha : Big a) (h : a ≠ 0) : Big (Int.gcd a b) := by
  refine Big.le ha ?_
  show Int.gcd a b ≤ a.natAbs
  exact Nat.le_of_dvd (by omega) (Nat.gcd_dvd_left _ _)
theorem big_small {z : Int} {n : Nat} (h : z.natAbs < 2 ^ n) (hn : n ≤ 4000) : Big z := Nat.lt_of_lt_of_le h (Nat.pow_le_pow_right (by decide) hn)
end CT
namespace CT
open PySem L2
def den (t u : Int) : Int := if u < 0 then -(Int.gcd t u : Int) else (Int.gcd t u : Int)
def fracT (t u : Int) : Int := t.fdiv (den t u)
def fracU (t u : Int) : Int := u.fdiv (den t u)
theorem Big.neg {i : Int} (b : Big i) : Big (-i) := b.le (by omega)
theorem gcd_ne {t u : Int} (h : u ≠ 0) : (Int.gcd t u : Int) ≠ 0 := by
  intro e
  have e2 : Int.gcd t u = 0 := by omega
  exact h (Int.gcd_eq_zero_iff.mp e2).2
theorem big_gcd2 {t u : Int} (hu : Big u) (h : u ≠ 0) : Big (Int.gcd t u : Int) := by
  refine Big.le hu ?_
  show Int.gcd t u ≤ u.natAbs
  exact Nat.le_of_dvd (by omega) (Nat.gcd_dvd_right _ _)
end CT
namespace CT
theorem nz (j : Int) (h : j ≠ 0 := by decide) : j ≠ 0 := h
end CT
namespace CT
open PySem L2
/-! ### lowest terms -/
theorem den_nat (t u : Int) : (den t u).natAbs = Int.gcd t u := by
  unfold den
  split <;> omega
theorem den_ne {t u : Int} (h : u ≠ 0) : den t u ≠ 0 := by
  have := gcd_ne (t := t) h
  unfold den
  split <;> omega
theorem den_t (t u : Int) : den t u ∣ t := by
  rw [← Int.natAbs_dvd_natAbs, den_nat]
  exact Nat.gcd_dvd_left _ _
theorem den_u (t u : Int) : den t u ∣ u := by
  rw [← Int.natAbs_dvd_natAbs, den_nat]
  exact Nat.gcd_dvd_right _ _
theorem frac_mul_t {t u : Int} (h : u ≠ 0) : den t u * fracT t u = t := by
  obtain ⟨a, e⟩ := den_t t u
  have z := Int.mul_fdiv_cancel_left a (den_ne (t := t) h)
  rw [← e] at z
  unfold fracT
  rw [z, ← e]
theorem frac_mul_u {t u : Int} (h : u ≠ 0) : den t u * fracU t u = u := by
  obtain ⟨a, e⟩ := den_u t u
  have z := Int.mul_fdiv_cancel_left a (den_ne (t := t) h)
  rw [← e] at z
  unfold fracU
  rw [z, ← e]
theorem frac_gcd {t u : Int} (h : u ≠ 0) : Int.gcd (fracT t u) (fracU t u) = 1 := by
  have e : Int.gcd (den t u * fracT t u) (den t u * fracU t u) = Int.gcd t u := by rw [frac_mul_t h, frac_mul_u h]
  rw [Int.gcd_mul_left, den_nat] at e
  have := gcd_ne (t := t) h
  exact Nat.eq_of_mul_eq_mul_left (n := Int.gcd t u) (by omega) (by rw [e, Nat.mul_one])
theorem frac_pos {t u : Int} (h : u ≠ 0) : 0 < fracU t u := by
  have e := frac_mul_u (t := t) h
  have g := gcd_ne (t := t) h
  rcases Int.lt_or_le 0 (fracU t u) with z | z
  · exact z
  exfalso
  rcases Int.lt_or_le u 0 with s | s
  · have d : den t u < 0 := by
      unfold den
      rw [if_pos s]
      omega
    have : 0 ≤ den t u * fracU t u := Int.mul_nonneg_of_nonpos_of_nonpos (by omega) z
    omega
  · have d : 0 < den t u := by
      unfold den
      rw [if_neg (by omega)]
      omega
    have : den t u * fracU t u ≤ 0 := Int.mul_nonpos_of_nonneg_of_nonpos (by omega) z
    omega
theorem den_mul {t u k : Int} (hu : u ≠ 0) (hk : k ≠ 0) : den (t * k) (u * k) = den t u * k := by
  unfold den
  have g : (Int.gcd (t * k) (u * k) : Int) = (Int.gcd t u : Int) * (k.natAbs : Int) := by
    rw [Int.gcd_mul_right]
    exact Int.natCast_mul _ _
  rw [g]
  rcases Int.lt_or_le u 0 with s | s
  · rw [if_pos s]
    rcases Int.lt_or_le k 0 with z | z
    · rw [if_neg (by have := Int.mul_pos_of_neg_of_neg s z; omega)]
      have e : (k.natAbs : Int) = -k := by omega
      rw [e, Int.mul_neg, Int.neg_mul]
    · rw [if_pos (Int.mul_neg_of_neg_of_pos s (by omega))]
      have e : (k.natAbs : Int) = k := by omega
      rw [e, Int.neg_mul]
  · rw [if_neg (show ¬ u < 0 by omega)]
    rcases Int.lt_or_le k 0 with z | z
    · rw [if_pos (Int.mul_neg_of_pos_of_neg (by omega) z)]
      have e : (k.natAbs : Int) = -k := by omega
      rw [e, Int.mul_neg, Int.neg_neg]
    · rw [if_neg (by have := Int.mul_nonneg (by omega : 0 ≤ u) z; omega)]
      have e : (k.natAbs : Int) = k := by omega
      rw [e]
theorem mul_fdiv {a d : Int} (h : d ≠ 0) : (d * a).fdiv d = a := Int.mul_fdiv_cancel_left a h
theorem fracT_mul {t u k : Int} (hu : u ≠ 0) (hk : k ≠ 0) : fracT (t * k) (u * k) = fracT t u := by
  have e := frac_mul_t (t := t) hu
  have d := den_mul (t := t) hu hk
  have : t * k = (den t u * k) * fracT t u := by
    rw [Int.mul_right_comm, e]
  show (t * k).fdiv (den (t * k) (u * k)) = _
  rw [d, this]
  exact mul_fdiv (Int.mul_ne_zero (den_ne hu) hk)
theorem fracU_mul {t u k : Int} (hu : u ≠ 0) (hk : k ≠ 0) : fracU (t * k) (u * k) = fracU t u := by
  have e := frac_mul_u (t := t) hu
  have d := den_mul (t := t) hu hk
  have : u * k = (den t u * k) * fracU t u := by
    rw [Int.mul_right_comm, e]
  show (u * k).fdiv (den (t * k) (u * k)) = _
  rw [d, this]
  exact mul_fdiv (Int.mul_ne_zero (den_ne hu) hk)
theorem fracT_one (t : Int) : fracT t 1 = t := by
  unfold fracT den
  rw [if_neg (by decide), Int.gcd_one]
  exact Int.fdiv_one t
theorem fracU_one (t : Int) : fracU t 1 = 1 := by
  unfold fracU den
  rw [if_neg (by decide), Int.gcd_one]
  rfl
theorem frac_big {t u : Int} (hu : u ≠ 0) (ht : Big t) (hu2 : Big u) : Big (fracT t u) ∧ Big (fracU t u) := by
  have e1 := congrArg Int.natAbs (frac_mul_t (t := t) hu)
  have e2 := congrArg Int.natAbs (frac_mul_u (t := t) hu)
  rw [Int.natAbs_mul] at e1 e2
  have d : 0 < (den t u).natAbs := by
    have := den_ne (t := t) hu
    omega
  refine ⟨ht.le ?_, hu2.le ?_⟩
  · exact Nat.le_trans (Nat.le_mul_of_pos_left _ d) (Nat.le_of_eq e1)
  · exact Nat.le_trans (Nat.le_mul_of_pos_left _ d) (Nat.le_of_eq e2)
theorem big_of {z : Int} (h : z.natAbs < 2 ^ 200) : Big z := big_small h (by decide)
end CT
namespace CT
open PySem L2
theorem big_mul {a b : Int} (ha : a.natAbs < 2 ^ 200) (hb : b.natAbs < 2 ^ 200) : Big (a * b) := by
  refine big_small (n := 200 + 200) ?_ (by decide)
  rw [Int.natAbs_mul, Nat.pow_add]
  exact Nat.mul_lt_mul_of_lt_of_lt ha hb
end CT
namespace CT
open PySem L2
/-- a bound whose products stay below the other one -/
def Mid (z : Int) : Prop := z.natAbs < 2 ^ 1500
theorem Mid.big {z : Int} (h : Mid z) : Big z := big_small h (by decide)
theorem Mid.of {z : Int} {n : Nat} (h : z.natAbs < 2 ^ n) (hn : n ≤ 1500 := by decide) : Mid z := Nat.lt_of_lt_of_le h (Nat.pow_le_pow_right (by decide) hn)
theorem Mid.neg0 {z : Int} (h : Mid z) : Mid (0 - z) := by
  show (0 - z).natAbs < 2 ^ 1500
  have e : (0 - z).natAbs = z.natAbs := by omega
  rw [e]
  exact h
theorem Mid.neg {z : Int} (h : Mid z) : Mid (-z) := by
  show (-z).natAbs < 2 ^ 1500
  rw [Int.natAbs_neg]
  exact h
theorem mid_nat {a b : Int} (ha : Mid a) (hb : Mid b) : (a * b).natAbs < 2 ^ (1500 + 1500) := by
  rw [Int.natAbs_mul, Nat.pow_add]
  exact Nat.mul_lt_mul_of_lt_of_lt ha hb
theorem mid_mul {a b : Int} (ha : Mid a) (hb : Mid b) : Big (a * b) := big_small (mid_nat ha hb) (by decide)
theorem mid_cross {a b c d : Int} (ha : Mid a) (hb : Mid b) (hc : Mid c) (hd : Mid d) : Big (a * b + c * d) := by
  have h1 := mid_nat ha hb
  have h2 := mid_nat hc hd
  have h3 := Int.natAbs_add_le (a * b) (c * d)
  refine big_small (n := (1500 + 1500) + 1) ?_ (by decide)
  rw [Nat.pow_succ]
  generalize (2 : Nat) ^ (1500 + 1500) = z at h1 h2 ⊢
  omega
theorem frac_le {t u : Int} (hu : u ≠ 0) : (fracT t u).natAbs ≤ t.natAbs ∧ (fracU t u).natAbs ≤ u.natAbs := by
  have e1 := congrArg Int.natAbs (frac_mul_t (t := t) hu)
  have e2 := congrArg Int.natAbs (frac_mul_u (t := t) hu)
  rw [Int.natAbs_mul] at e1 e2
  have d : 0 < (den t u).natAbs := by
    have := den_ne (t := t) hu
    omega
  exact ⟨Nat.le_trans (Nat.le_mul_of_pos_left _ d) (Nat.le_of_eq e1), Nat.le_trans (Nat.le_mul_of_pos_left _ d) (Nat.le_of_eq e2)⟩
end CT

/-! A lambda handed to a def that calls it within a try whose suites store. -/
namespace CT
open PySem PySem.Spec PySem.Calls PyProof.Rows L2 He LamX

/-! ### e.f in a suite, the class asked by the reading -/
def tXg (K : PySem.W.Frag) (a : Addr) (cls : Value) (d : Option Addr) (f : Str) (te : TE) : TE := fun σ H Q => te σ H fun x H1 => x = .ref a ∧ ∃ (C dd : Addr) (fs : List (Str × V)) (v : V), cls = .ref C ∧ XfC K C ∧ PySem.W.findIn K (.ref C) f = some none ∧ d = some dd ∧ H1 dd = some (.xd fs) ∧ fs.lookup f = some v ∧ Q v H1
theorem pe_xg {X : Cx} {a : Addr} {oe : Obj} {cls : Value} {d : Option Addr} {pn : List (Addr × Obj)} {e : Expr} {te : TE} {pos : Pos} {n : Str}
    (hz : Zc cls d oe) (hf : ∃ vs, oe.data = .fields vs) (he : PE (X.suite a ((a, oe) :: pn)) e te) (hb : attributeBase e n X.env (eval e X.env) = eval e X.env := by rfl) :
    PE (X.suite a ((a, oe) :: pn)) (.Attribute e n pos) (tXg X.K a cls d n te) := by
  refine ⟨fun pins s σ H Q I h => ?_⟩
  refine attr_of hb (thn (he.run pins s σ H _ I h) fun u s1 hh => ?_)
  obtain ⟨x, H1, I1, rx, ex, C, dd, fs, v, ec, T, hno, ed, ea, l, q⟩ := hh
  subst ex
  obtain rfl : u = Value.ref a := rx
  subst ec
  subst ed
  obtain ⟨ha, _⟩ := I1.pin (a, oe) (List.mem_append_left _ List.mem_cons_self)
  obtain ⟨vs, hd⟩ := hf
  have hx : ObjOk X.prog X.w H1 s1.heap dd (.xd fs) := I1.hok dd _ ea
  obtain ⟨mA, hns, hr⟩ := hx
  obtain ⟨od, ho, hl⟩ := lookIn_ns hns
  obtain ⟨u, hu, ru⟩ := RelO.some_of (v := v) (o := mA n) (by rw [← l]; exact hr n)
  have J : PySem.W.InstAt s1.heap a oe C (some od) := ⟨ha, hz.1, by unfold PySem.W.notCls; rw [hd] <;> rfl, by rw [hz.2]; exact ho⟩
  exact HandSPX.exc_get I1.kIn J T.ga T.gg T.exC (PySem.W.findObj_own T.hdC hno rfl (by rw [hl, hu])) (handed_of ru) ⟨v, H1, I1.tok _, ru, q⟩

/-! ### the lambda called; what is let out is wished for at the caller's slots -/
section
variable {X : Cx} {pins : List (Addr × Obj)} {σ : L2.St} {H : Hp} {s s1 : Shared}
theorem pe_actS {CXg : CXT} {Eg : XK} {Ng : List Str} {qg : Str} {sg : Scope} {g f c' : Addr} {cdg pm ctv : Value} {params : Arguments} {body : Expr} {scope : Scope} {k i : Nat} {a : Str} {pn : List (Addr × Obj)} {xe : Value → Shared → Prop} {W : WX} {tb : XK → TE} {p1 p2 : Pos}
    (I : Inv X pins σ H s) (L : LamS X.env.scope scope) (hf : s.heap.get? f = some (PySem.W.kla_obj "<lambda>" (X.env.qual ++ "<lambda>") params body scope (cloFrom X.env.cells scope.names []) pm c' ctv)) (hfn : H f = none) (hfr : f ∉ frs X.stack)
    (hbind : bindArgs (PySem.W.kla_fn "<lambda>" (X.env.qual ++ "<lambda>") params body scope (cloFrom X.env.cells scope.names []) pm (.ref c') ctv) ⟨[], []⟩ = pure [])
    (tk : Takes ((cxOf CXg X.prog X.w X.K X.mg X.base Ng qg sg g cdg X.A X.stack s H Eg).tr pn xe) W) (hr : Room (k + 1) (X.A.deeper (envOfC qg sg s.heap.objs.size g cdg)))
    (hbody : ∀ (E : XK) (A : Around) (outer : List Env) (s : Shared) (H : Hp), Room k (A.deeper (lamEnv X scope s.heap.objs.size f c')) → PE (lamCx X A outer s H E scope f c') body (tb E))
    (hN : Ng[i]? = some a) (hv : Vis sg a) (hd : (a == ("__debug__" : Str)) = false := by decide) (hcd : (a == ("__classdict__" : Str)) = false := by decide) :
    PE ((cxOf CXg X.prog X.w X.K X.mg X.base Ng qg sg g cdg X.A X.stack s H Eg).tr pn xe) (.Call (.Name a p1) [] [] p2)
      (fun σZ HZ Q => σZ[i]? = some (some (.ref f)) ∧ HZ c' = some (CodeO c' (X.env.qual ++ "<lambda>")) ∧ ∃ E : XK, (∀ cls d H', E cls d H' → W cls d σZ H') ∧ tb E σ HZ Q) := by
  refine ⟨fun pinsZ sZ σZ HZ Q IZ h => ?_⟩
  obtain ⟨hs, hc, E, hW, ht⟩ := h
  refine wpAny_Call_Name_kw (thn ((pe_var (pos := p1) (i := i) hN hv hd hcd).run pinsZ sZ σZ HZ (fun v H1 => v = .ref f ∧ H1 = HZ) IZ ⟨.ref f, hs, rfl, rfl⟩) fun u s1 ⟨v, H1, I1, r1, q1⟩ => ?_)
  obtain ⟨ev, eH⟩ := q1
  subst ev
  rw [eH] at I1
  obtain rfl : u = Value.ref f := r1
  have of1 : s1.heap.get? f = some (PySem.W.kla_obj "<lambda>" (X.env.qual ++ "<lambda>") params body scope (cloFrom X.env.cells scope.names []) pm c' ctv) := I1.base.keep f _ hf hfn hfr (fun z => nomatch (show f ∈ ([] : List Addr) from z))
  refine PySem.W.callWith_F0 ⟨_, _, _, _, of1⟩ ?_
  have un : Un (frs X.stack) [] H HZ s.heap s1.heap := I1.base
  obtain ⟨⟨oc, vs, t, hoc, hdc, hvc⟩, _, _⟩ := I1.hok c' _ hc
  have rc : codeAny (model X.prog X.w) (X.A.deeper (envOfC qg sg s.heap.objs.size g cdg)) (.call (.ref f) ⟨[], []⟩) (CR (L2.CX X.prog X.w) (envOfC qg sg s.heap.objs.size g cdg :: X.stack) X.prog X.w HZ s1 Q E) s1 := by
    refine PySem.W.kla_callFunE hr.depth of1 rfl L.co L.gen rfl ⟨c', oc, vs, t, rfl, hoc, hdc, hvc⟩ ?_
    rw [hbind]
    refine wpAny_pure (wpAny_newFunctionEnv (fun y hy => (L.own y hy).2) (fun y hy => absurd hy (by simp)) (fun h₁ hns hsb => ⟨I1.nolimit.fresh _ hsb, ?_⟩) L.kind)
    show codeAny _ _ (.expr body (lamEnv X scope s1.heap.objs.size f c')) _ _
    have kp : ∀ b o, s1.heap.get? b = some o → h₁.get? b = some o := fun b o e => hsb.extBut b o (Nat.ne_of_lt (Heap.lt_size e)) (Heap.get?_push_of_some _ e)
    have J : Inv (lamCx X (X.A.deeper (envOfC qg sg s.heap.objs.size g cdg)) (envOfC qg sg s.heap.objs.size g cdg :: X.stack) s1 HZ E scope f c') [] σ HZ { s1 with heap := h₁, toks := s1.toks + ([] : List (Str × Value)).length } :=
      lam_start2 I L I1.env0 hr.hd un hns kp
    refine PySem.W.kla_codeExpr (wpAny_mono ((hbody E _ _ s1 HZ (hr.deeper _)).run [] _ _ HZ Q J ht) (fun v s' hq => ?_) fun e s' hq => hq)
    obtain ⟨w', H', J', rv, q⟩ := hq
    exact ⟨w', H', J'.os, J'.bare, J'.base, J'.hok, rv, q⟩
  refine wpAny_call (codeAny_mono rc fun r s' hq => ?_)
  cases r with
  | error e => exact tk e s' (XE.of_call I1 (fun cls d H' => hW cls d H') hq)
  | ok fl =>
    cases fl with
    | ret u => exact I1.after hq
    | next => exact False.elim hq
    | brk => exact False.elim hq
    | cont => exact False.elim hq
end
/-- the def that calls what it got: a calls it; TT: what it makes of the lambda's reading -/
def GivesS (X : Cx) (Ng : List Str) (x : Str) (sg : Scope) (g : Addr) (cdg : Value) (bg : List Stmt) (a : Str) (q : Str) (TT : (XK → Hp → VK → Prop) → Hp → VK → Prop) : Prop :=
  ∀ (f c' : Addr) (s : Shared) (H : Hp) (Q : VK) (tl : XK → Hp → VK → Prop),
    (∀ (W : WX) (pn : List (Addr × Obj)) (xe : Value → Shared → Prop) (p1 p2 : Pos), Takes ((cxOf CX0 X.prog X.w X.K X.mg X.base Ng x sg g cdg X.A X.stack s H E0).tr pn xe) W →
      PE ((cxOf CX0 X.prog X.w X.K X.mg X.base Ng x sg g cdg X.A X.stack s H E0).tr pn xe) (.Call (.Name a p1) [] [] p2) (fun σZ HZ Q => σZ[0]? = some (some (.ref f)) ∧ HZ c' = some (CodeO c' q) ∧ ∃ E : XK, (∀ cls d H', E cls d H' → W cls d σZ H') ∧ tl E HZ Q)) →
    H c' = some (CodeO c' q) → TT tl H Q →
    ∃ t, PSs (cxOf CX0 X.prog X.w X.K X.mg X.base Ng x sg g cdg X.A X.stack s H E0).nox bg t ∧ t { nx := fun _ H' => Q .non H', rt := Q } (L2.start Ng [.ref f]) H
section
variable {X : Cx}
/-- x(lambda: body) -/
theorem pe_lamcallS {T : List (Addr × Str)} {TT : (XK → Hp → VK → Prop) → Hp → VK → Prop} {x a : Str} {g c P : Addr} {k : Nat} {pg : Arguments} {bg : List Stmt} {sg : Scope} {dV kV doc pm cdv ct oc : Value} {an od : Option Addr} {osl : Array (Option Value)} {Ng : List Str}
    {params : Arguments} {body : Expr} {scope : Scope} {t : XK → TE} {p lpos pos : Pos} (hg : Gl X x) (hm : X.mg x = some (.ref g)) (hk : PySem.W.keepIn X.K (.ref g) = true)
    (lk : X.K.lookup g = some ⟨oc, od, .func (PySem.W.fnOf x x pg bg sg dV kV doc pm an cdv ct), osl⟩) (hcg : PySem.W.codeIn X.K cdv x = true) (hb : L2.Binds X.K (PySem.W.fnOf x x pg bg sg dV kV doc pm an cdv ct) [a] []) (Sg : FnScope Ng [a] sg) (hNg : Ng[0]? = some a) (hva : Vis sg a)
    (hG : GivesS X Ng x sg g cdv bg a (X.env.qual ++ "<lambda>") TT)
    (TB : TabB X.base X.mg c P) (hcode : X.env.code = .ref c) (hmT : (P, X.env.qual ++ "<lambda>") ∈ T) (hu : ∀ p ∈ T, p.1 = P → p.2 = X.env.qual ++ "<lambda>") (hr : Room (k + 2) X.A) (L : LamS X.env.scope scope) (hdef : defaultsOf params X.env = ([], []))
    (hbind : ∀ (q : Str) (cl : List (Str × Addr)) (pm cv ctv : Value), bindArgs (PySem.W.kla_fn "<lambda>" q params body scope cl pm cv ctv) ⟨[], []⟩ = pure [])
    (hbody : ∀ (A : Around) (outer : List Env) (s : Shared) (H : Hp) (E : XK) (f c' : Addr), Room k (A.deeper (lamEnv X scope s.heap.objs.size f c')) → PE (lamCx X A outer s H E scope f c') body (t E))
    (hdb : (x == ("__debug__" : Str)) = false := by decide) (hd : (a == ("__debug__" : Str)) = false := by decide) (hcd : (a == ("__classdict__" : Str)) = false := by decide) :
    PE X (.Call (.Name x p) [.Lambda params body scope lpos] [] pos) (tLam T TT t) := by
  refine ⟨fun pins s σ H Q I h => ?_⟩
  obtain ⟨hT, h⟩ := h
  refine wpAny_Call_Name_kw (ld_glob I hg hm ?_ hdb)
  refine PySem.W.callWith_K (h₀ := X.base) I.ok.mod.kin hk ?_ (by rfl) (by rfl)
  show wpAny _ _ (spliced ((false, eval (.Lambda params body scope lpos) X.env) :: backTo pos (starEach [] X.env))) _ _ s
  refine Calls.spliced_cons (lam_make2 I TB hcode hmT hu hT hdef (L.has I.ok) fun f c' pm' ctv H1 s' I1 eN T1 hf hfn hfr hco => ?_)
  refine Calls.spliced_nil ⟨I1.kIn, ?_⟩
  have rc : codeAny (model X.prog X.w) X.A (.call (.ref g) ⟨[.ref f], []⟩) (CR CX0 X.stack X.prog X.w H1 s' Q E0) s' := by
    refine run_ofS (N := Ng) (ps := [a]) (us := [.ref f]) (vs := [.ref f]) lk hcg Sg hr I1.env0 (hb s' [.ref f] I1.kIn rfl) (.cons rfl .nil) rfl fun hr' => ?_
    obtain ⟨t', ht', hq'⟩ := hG f c' s' H1 Q (fun E H' Q' => t E σ H' Q') (fun W pn xe p1 p2 tk => pe_actS (i := 0) I1 L hf hfn hfr (hbind _ _ _ _ _) tk hr' (fun E A outer s H hr2 => hbody A outer s H E f c' hr2) hNg hva hd hcd) hco (h H1 eN T1)
    exact ⟨t', ht'.nox, hq'⟩
  refine wpAny_call (codeAny_mono rc fun r s2 hq => ?_)
  cases r with
  | error e => exact (show False from hq).elim
  | ok fl =>
    cases fl with
    | ret u => exact I1.after hq
    | next => exact False.elim hq
    | brk => exact False.elim hq
    | cont => exact False.elim hq
end
/-! ### _law_why -/
/-- the clauses of _law_why: the classes, the field that is told -/
def whyCl : List (List Str × Option Str) := [(["InvalidRatio", "InvalidDegree", "InvalidLimit"], some "given"), (["InvalidTerm", "ParseError", "InvalidLetters", "InvalidBegin", "InvalidMode"], some "at"),
  (["InvalidGuard", "UnknownLetter", "InvalidRecoding"], some "at"), (["Mismatch"], some "wanted"), (["InvalidName", "DuplicateName", "WrongSort", "UnknownName"], some "name"), (["CapacityExceeded"], some "most"),
  (["InvalidCommand"], some "first"), (["InUse"], some "label"), (["Fails"], some "word"), (["NoLead", "LettersDiffer", "NoText", "NothingLeft"], none)]
def whyNames : List Str := (["InvalidRatio", "InvalidDegree", "InvalidLimit", "InvalidTerm", "ParseError", "InvalidLetters", "InvalidBegin", "InvalidMode", "InvalidGuard", "UnknownLetter", "InvalidRecoding", "Mismatch"] : List Str) ++ ((["InvalidName", "DuplicateName", "WrongSort", "UnknownName", "CapacityExceeded", "InvalidCommand", "InUse", "Fails", "NoLead", "LettersDiffer", "NoText", "NothingLeft"] : List Str))
def whyX (K : PySem.W.Frag) (a : Addr) (cls : Value) (d : Option Addr) : Option Str → TE
  | some y => tXg K a cls d y (tVar 2)
  | none => tC V.non
def whyTs (K : PySem.W.Frag) (x : Option Str) : Addr → Value → Option Addr → TS := fun a cls d => tSeq (tAsg (tTup (tCons (tXg K a cls d "tag" (tVar 2)) (tCons (whyX K a cls d x) tNil))) (gName 1)) tNext
def refs (K : PySem.W.Frag) (ns : List Str) : List Value := ns.map fun n => Value.ref (ga K n)
def whyL (K : PySem.W.Frag) (cl : List (List Str × Option Str)) : List (List Value × (Addr → Value → Option Addr → TS)) := cl.map fun c => (refs K c.1, whyTs K c.2)
/-- what is known of an error class that _law_why may meet -/
structure WhyC (K : PySem.W.Frag) (n : Str) (x : Option Str) : Prop where
  xf : XfC K (ga K n)
  tag : PySem.W.findIn K (.ref (ga K n)) "tag" = some none
  fld : ∀ y, x = some y → PySem.W.findIn K (.ref (ga K n)) y = some none
  exm : ∀ m ∈ whyNames, PySem.W.exmOne K (.ref (ga K n)) (.ref (ga K m)) = some (decide (n = m))
theorem exm_list {K : PySem.W.Frag} {n : Str} : ∀ {ns : List Str}, (∀ m ∈ ns, PySem.W.exmOne K (.ref (ga K n)) (.ref (ga K m)) = some (decide (n = m))) → PySem.W.exmAny K (.ref (ga K n)) (refs K ns) = some (ns.any fun m => decide (n = m))
  | [], _ => rfl
  | m :: r, h => by
    show PySem.W.exmAny K (.ref (ga K n)) (.ref (ga K m) :: refs K r) = _
    unfold PySem.W.exmAny
    rw [h m (by simp), exm_list fun z hz => h z (List.mem_cons_of_mem _ hz)]
    rfl
/-- an error as it is told: its tag, its field -/
def Told (K : PySem.W.Frag) (n : Str) (x : Option Str) (v : V) (cls : Value) (d : Option Addr) (H' : Hp) : Prop :=
  cls = .ref (ga K n) ∧ ∃ (dd : Addr) (fs : List (Str × V)), d = some dd ∧ H' dd = some (.xd fs) ∧ fs.lookup ("tag" : Str) = some (V.str n) ∧ ∀ y, x = some y → fs.lookup y = some v
theorem why_reads {K : PySem.W.Frag} {n : Str} {x : Option Str} {v : V} {cls : Value} {d : Option Addr} {H' : Hp} {u0 u1 : Option V} {D : Ends} {Wout : WX} (C : WhyC K n x) (ht : Told K n x v cls d H') (hv : x = none → v = V.non)
    (q : ∀ p, H' p = none → D.nx [u0, some (.ref p), none] (upd H' p (.tup [.str n, v]))) : ∀ cl : List (List Str × Option Str), (∀ c ∈ cl, ∀ m ∈ c.1, m ∈ whyNames) → (∀ c ∈ cl, n ∈ c.1 → c.2 = x) → (∃ c ∈ cl, n ∈ c.1) → wManyAs K 2 Wout D (whyL K cl) cls d [u0, u1, none] H'
  | [], _, _, h => by
    obtain ⟨c, hc, _⟩ := h
    cases hc
  | (ns, y) :: r, h1, h2, h3 => by
    obtain ⟨ec, dd, fs, ed, edd, hl, hf⟩ := ht
    have e := exm_list (K := K) (n := n) (ns := ns) fun m hm => C.exm m (h1 (ns, y) (by simp) m hm)
    refine ⟨ns.any fun m => decide (n = m), by rw [ec]; exact e, fun hb a ha => ?_, fun hb => ?_⟩
    · have hn : n ∈ ns := by
        obtain ⟨m, hm, e2⟩ := List.any_eq_true.mp hb
        rw [of_decide_eq_true e2]
        exact hm
      have ey : y = x := h2 (ns, y) (by simp) hn
      subst ey
      refine ⟨.ref a, rfl, rfl, ga K n, dd, fs, .str n, ec, C.xf, C.tag, ed, edd, hl, ?_⟩
      have fin : (2 : Nat) ≤ sizeLine ∧ ∀ p, H' p = none → D.nx (([u0, u1, some (V.ref a)].set 1 (some (.ref p))).set 2 none) (upd H' p (.tup [.str n, v])) := ⟨by decide, fun p hp => q p hp⟩
      cases y with
      | none =>
        rw [hv rfl] at fin
        exact fin
      | some y => exact ⟨.ref a, rfl, rfl, ga K n, dd, fs, v, ec, C.xf, C.fld y rfl, ed, edd, hf y rfl, fin⟩
    · have hn : n ∉ ns := fun hm => by
        have z : (ns.any fun m => decide (n = m)) = true := List.any_eq_true.mpr ⟨n, hm, decide_eq_true rfl⟩
        rw [hb] at z
        cases z
      refine why_reads C ⟨ec, dd, fs, ed, edd, hl, hf⟩ hv q r (fun c hc => h1 c (List.mem_cons_of_mem _ hc)) (fun c hc => h2 c (List.mem_cons_of_mem _ hc)) ?_
      obtain ⟨c, hc, hm⟩ := h3
      rcases List.mem_cons.mp hc with e | hc
      · subst e
        exact absurd hm hn
      · exact ⟨c, hc, hm⟩
/-- what _law_why hands back: told at a new tuple; R: the errors that may come, each with its field (none: None is told) -/
def TWhy (K : PySem.W.Frag) (R : List (Str × Option Str)) : (XK → Hp → VK → Prop) → Hp → VK → Prop := fun tl H Q => ∀ p H1, H p = none → Same H H1 → H1 p = some (.tup [.str "", .non]) → ∀ (QQ : VK) (EE : XK), (∀ v H', Q (.ref p) H' → QQ v H') →
  (∀ cls d H', (∃ n x v, (n, x) ∈ R ∧ Told K n x v cls d H' ∧ (x = none → v = V.non) ∧ ∀ q H2, H' q = none → Same H' H2 → H2 q = some (.tup [.str n, v]) → Q (.ref q) H2) → EE cls d H') → tl EE H1 QQ
theorem why_all : ∀ c ∈ whyCl, ∀ m ∈ c.1, m ∈ whyNames := by decide +kernel
end CT

/-! Lambdas that are kept in variables and lists, with or without a parameter that has the default 0. -/
namespace CT
open PySem PySem.Spec PySem.Calls PyProof.Rows L2 He LamX
/-- a lambda's text; df: its parameter with the default 0 -/
structure LamD where
  ps : Arguments
  body : Expr
  scope : Scope
  df : Option Str
/-- its function object -/
def lamFn (q : Str) (d : LamD) (clo : List (Str × Addr)) (dv pm cv ctv : Value) : FuncData :=
  { name := "<lambda>", qualname := q, params := d.ps, body := .expr d.body, scope := d.scope, globals := mainGlobals, closure := clo, defaults := dv, kwdefaults := .none, doc := .none, pyModule := pm, annotations := none, code := cv, closureTuple := ctv, builtins := builtinsNs }
def lamObj (q : Str) (d : LamD) (clo : List (Str × Addr)) (dv pm cv ctv : Value) : Obj := { cls := .type "function", data := .func (lamFn q d clo dv pm cv ctv) }
section
variable {M : Model} {A : Around} {E : Value → Shared → Prop} {s : Shared} {env : Env} {c P : Addr} {ps : Array Value} {pos : Pos} {mg : Str → Option Value} {clo : List (Str × Addr)} {Q : Value → Shared → Prop} {d : LamD} {dv : Value} {q : Str}
/-- the closure's tuple -/
theorem clo_tuple (h : ∀ (ctv : Value) (h' : Heap), (∀ b o, s.heap.get? b = some o → h'.get? b = some o) → s.heap.objs.size ≤ h'.objs.size → Q ctv { s with heap := h' }) :
    wpAny M A (if clo.isEmpty = true then pure Value.none else newTextTuple ((clo.mergeSort fun a b => a.1.cps.toList ≤ b.1.cps.toList).map (.ref ·.2))) Q E s := by
  cases clo with
  | nil => exact wpAny_pure (h .none s.heap (fun _ _ e => e) (Nat.le_refl _))
  | cons x r =>
    refine wpAny_newTextTuple (h _ _ (fun b o e => Heap.get?_push_of_some _ e) ?_)
    rw [Heap.size_push]
    exact Nat.le_succ _
theorem wp_both {b : Bool} {x y : Sem Value} {k : Value → Sem Value} (h : wpAny M A ((if b = true then x else y) >>= k) Q E s) : wpAny M A (if b = true then x >>= k else y >>= k) Q E s := by
  cases b <;> exact h
theorem lam_tail (hcl : closureFor d.scope env = pure clo) (hge : env.globals = mainGlobals) (hg : s.heap.Ns mainGlobals mg) (hcode : env.code = .ref c) (C : PySem.W.CodeHd s.heap c P) (hP : s.heap.get? P = some (PySem.W.tabObj ps)) (ht : TriplesOk ps.toList) (hgP : mainGlobals ≠ P) (hb : s.heap.BuiltinsAt mg P)
    (hit : ∀ (cv ctv : Value) (h' : Heap) (tk : Tok), codeAmong pos ps.toList = some cv → (∀ b o, s.heap.get? b = some o → h'.get? b = some o) → s.heap.objs.size ≤ h'.objs.size → Q (.ref h'.objs.size) { s with heap := h'.push (lamObj q d clo dv ((mg "__name__").getD .none) cv ctv), toks := tk })
    (miss : ∀ (c' : Addr) (ctv : Value) (h' : Heap) (tk : Tok), codeAmong pos ps.toList = none → Heap.ExtBut P s.heap h' → s.heap.objs.size ≤ c' → c' < h'.objs.size → h'.CodeRec (.ref c') q → h'.get? P = some (PySem.W.tabObj (ps ++ #[rawInt pos.line, rawInt pos.col, .ref c'])) →
      Q (.ref h'.objs.size) { s with heap := h'.push (lamObj q d clo dv ((mg "__name__").getD .none) (.ref c') ctv), toks := tk }) :
    wpAny M A (makeTail "<lambda>" q d.ps (.expr d.body) d.scope env dv .none none pos pos.line) Q E s := by
  obtain ⟨bm, ob, b1, b2, _, b3, b4, b5, b6, b7⟩ := hb
  unfold makeTail
  rw [hcl, hge]
  refine wpAny_bind (wpAny_pure (wp_both (wpAny_bind (clo_tuple fun ctv h1 kp sz => ?_))))
  have C1 := C.keeps kp
  have hP1 := kp _ _ hP
  have hg1 : h1.Ns mainGlobals mg := hg.keeps kp
  cases hc : codeAmong pos ps.toList with
  | some cv =>
    refine wpAny_bind (wpAny_functionCode_hit hcode (C1.code hP1 ht) hc (wpAny_bind (wpAny_builtinsFor hg1 b1 b2 (kp _ _ b4) b5 b6 b7 (wpAny_bind (wpAny_nsGet hg1 (wpAny_bind (wpAny_pure (wpAny_newObj_type ?_ (by size_fits)))))))))
    exact hit cv ctv h1 s.toks hc kp sz
  | none =>
    refine wpAny_bind (wpAny_functionCodeX hcode (C1.code hP1 ht) (C1.tab hP1) hc fun c' h' tk hx ge lt _ hrec htb _ => ?_)
    have hx2 : Heap.ExtBut P s.heap h' := fun b o n e => hx b o n (kp _ _ e)
    have hg2 := hg1.extBut hx hgP
    refine wpAny_bind (wpAny_builtinsFor hg2 b1 b2 (hx2 _ _ b3 b4) b5 b6 b7 (wpAny_bind (wpAny_nsGet hg2 (wpAny_bind (wpAny_pure (wpAny_newObj_type ?_ (by size_fits)))))))
    exact miss c' ctv h' tk hc hx2 (Nat.le_trans sz ge) lt hrec htb.2
end
/-! ### what is known of a kept lambda -/
/-- its names: captured ones, globals, a parameter that is no name of the maker's -/
structure LamS2 (N : List Str) (sc scope : Scope) : Prop where
  kind : scope.kind = .function
  co : scope.isCoroutine = false
  gen : scope.isGenerator = false
  own : ∀ y ∈ scope.names, y.2 ≠ .cell ∧ (y.2 = .local → y.1 ∉ N)
  free : ∀ y ∈ scope.names, y.2 = .free → sc.names.lookup y.1 = some .cell ∨ sc.names.lookup y.1 = some .free
def lamS2B (N : List Str) (sc scope : Scope) : Bool :=
  decide (scope.kind = .function) && (!scope.isCoroutine && (!scope.isGenerator && scope.names.all fun y => !decide (y.2 = .cell) && ((!decide (y.2 = .local) || decide (y.1 ∉ N)) && (!decide (y.2 = .free) || (decide (sc.names.lookup y.1 = some .cell) || decide (sc.names.lookup y.1 = some .free))))))
theorem lamS2_by {N : List Str} {sc scope : Scope} (h : lamS2B N sc scope = true) : LamS2 N sc scope := by
  unfold lamS2B at h
  simp only [Bool.and_eq_true, Bool.or_eq_true, Bool.not_eq_true', decide_eq_true_eq, decide_eq_false_iff_not, List.all_eq_true] at h
  obtain ⟨h1, h2, h3, h4⟩ := h
  refine ⟨h1, h2, h3, fun y hy => ⟨(h4 y hy).1, fun e => (h4 y hy).2.1.resolve_left fun z => z e⟩, fun y hy e => ?_⟩
  exact (h4 y hy).2.2.resolve_left fun z => z e
theorem LamS2.has {X : Cx} {scope : Scope} (L : LamS2 X.N X.env.scope scope) (ok : X.Ok) : ∀ y ∈ scope.names, y.2 = .free → ∃ c, X.env.cells.lookup y.1 = some c :=
  fun y hy e => (L.free y hy e).elim (fun k => ok.has _ (.inl k)) fun k => ok.has _ (.inr k)
def DefOk (env : Env) (d : LamD) : Prop := match d.df with
  | none => defaultsOf d.ps env = ([], [])
  | some _ => ∃ j p, defaultsOf d.ps env = ([eval (.Constant (.int 0) j p) env], [])
def BindOk (d : LamD) : Prop := match d.df with
  | none => ∀ (q : Str) (clo : List (Str × Addr)) (pm cv ctv : Value), bindArgs (lamFn q d clo .none pm cv ctv) ⟨[], []⟩ = pure []
  | some x => (∀ (q : Str) (clo : List (Str × Addr)) (td : Addr) (pm cv ctv v : Value), ∃ k, bindArgs (lamFn q d clo (.ref td) pm cv ctv) ⟨[], []⟩ = seqItems? (.ref td) >>= k ∧ k (some #[v]) = pure [(x, v)]) ∧ d.scope.names.lookup x = some .local
def LamO (env : Env) (d : LamD) (c' : Addr) (dv : Value) (f : Addr) : HO := .ext fun h => ∃ pm ctv, h.get? f = some (lamObj (env.qual ++ "<lambda>") d (cloFrom env.cells d.scope.names []) dv pm (.ref c') ctv)
theorem lamO_tbl {env : Env} {d : LamD} {c' f : Addr} {dv : Value} (ps : Array Value) : LamO env d c' dv f ≠ .tbl ps := fun z => by
  unfold LamO at z
  cases z
theorem lamO_lst {env : Env} {d : LamD} {c' f : Addr} {dv : Value} (xs : List V) : LamO env d c' dv f ≠ .lst xs := fun z => by
  unfold LamO at z
  cases z
def DfOk (H : Hp) : Option Str → Value → Prop
  | none, dv => dv = .none
  | some _, dv => ∃ td, dv = .ref td ∧ H td = some (.tup [.int 0])
/-- the lambda of the text d, made in env, at f -/
def LamAt (env : Env) (d : LamD) (f : Addr) (H : Hp) : Prop := ∃ (c' : Addr) (dv : Value), H f = some (LamO env d c' dv f) ∧ H c' = some (CodeO c' (env.qual ++ "<lambda>")) ∧ DfOk H d.df dv
theorem DfOk.keep {H H' : Hp} (e : ∀ b xs, H b = some (.tup xs) → H' b = some (.tup xs)) : ∀ {o : Option Str} {dv : Value}, DfOk H o dv → DfOk H' o dv
  | none, _, h => h
  | some _, _, ⟨td, h1, h2⟩ => ⟨td, h1, e _ _ h2⟩
theorem LamAt.ext {env : Env} {d : LamD} {f : Addr} {H H' : Hp} (h : LamAt env d f H) (e : ExtN H H') : LamAt env d f H' := by
  obtain ⟨c', dv, h1, h2, h3⟩ := h
  exact ⟨c', dv, e _ _ h1 lamO_tbl, e _ _ h2 codeO_ne, h3.keep fun b xs z => e _ _ z fun _ w => by cases w⟩
theorem LamAt.same {env : Env} {d : LamD} {f : Addr} {H H' : Hp} (h : LamAt env d f H) (e : Same H H') : LamAt env d f H' := h.ext (ExtN.of e)
theorem LamAt.but {env : Env} {d : LamD} {f p : Addr} {H H' : Hp} {xs : List V} (h : LamAt env d f H) (hp : H p = some (.lst xs)) (e : ∀ b o, b ≠ p → H b = some o → H' b = some o) : LamAt env d f H' := by
  obtain ⟨c', dv, h1, h2, h3⟩ := h
  refine ⟨c', dv, e _ _ (fun z => ?_) h1, e _ _ (fun z => ?_) h2, h3.keep fun b xs z => e _ _ (ne_of z hp fun w => by cases w) z⟩
  · rw [z, hp] at h1
    exact lamO_lst _ (Option.some.inj h1).symm
  · rw [z, hp] at h2
    unfold CodeO at h2
    cases h2
theorem none_of' {H H' : Hp} {a : Addr} (s : Same H H') (h : H' a = none) : H a = none := by
  rcases e : H a with _ | o
  · rfl
  · rw [s _ _ e] at h
    cases h
section
variable {X : Cx} {pins : List (Addr × Obj)} {σ : L2.St} {H : Hp} {s : Shared}
theorem lamO_laid {env : Env} {d : LamD} {c' : Addr} {dv pm ctv : Value} {h0 : Heap} {t' : Nat} (I : Inv X pins σ H { s with heap := h0, toks := t' }) :
    Inv X pins σ (upd H h0.objs.size (LamO env d c' dv h0.objs.size)) { s with heap := h0.push (lamObj (env.qual ++ "<lambda>") d (cloFrom env.cells d.scope.names []) dv pm (.ref c') ctv), toks := t' } := by
  refine I.laid (t' := t') (fun b o e => Heap.get?_push_of_some _ e) (Nat.le_refl _) ⟨⟨pm, ctv, Heap.get?_push_size _ rfl⟩, ⟨_, Heap.get?_push_size _ rfl⟩, fun h1 h2 ⟨pm', ctv', e⟩ k => ⟨pm', ctv', k _ e⟩⟩
/-- the lambda as a value -/
def tMkLam (T : List (Addr × Str)) (env : Env) (d : LamD) : TE := fun σ H Q => Tabs T H ∧ ∀ f H1, ExtN H H1 → Tabs T H1 → H f = none → LamAt env d f H1 → Q (.ref f) H1
theorem tabs_at {T : List (Addr × Str)} {c P : Addr} {q : Str} {ps : Array Value} {pos : Pos} {c' : Addr} {H H1 : Hp} (hu : ∀ p ∈ T, p.1 = P → p.2 = q) (hT : Tabs T H) (ht : TriplesOk ps.toList) (hP : H P = some (.tbl ps)) (e : ExtN H H1) (hk : ∀ b ps', b ≠ P → H b = some (.tbl ps') → H1 b = some (.tbl ps'))
    (h1 : H1 P = some (.tbl (ps ++ #[rawInt pos.line, rawInt pos.col, .ref c']))) (h2 : H1 c' = some (CodeO c' q)) : Tabs T H1 := fun p hp => by
  obtain ⟨ps0, a1, a2, a3⟩ := hT p hp
  by_cases hb : p.1 = P
  · rw [hb] at a1 ⊢
    rw [hP] at a1
    cases a1
    have eL : (ps ++ #[rawInt pos.line, rawInt pos.col, .ref c']).toList = ps.toList ++ [rawInt pos.line, rawInt pos.col, .ref c'] := by simp
    refine ⟨_, h1, by rw [eL]; exact PySem.TriplesOk_snoc _ _ _ _ a2, fun p' cv hcv => ?_⟩
    rw [eL] at hcv
    rcases among_app _ a2 hcv with z | z
    · obtain ⟨c0, e1, e2⟩ := a3 p' cv z
      exact ⟨c0, e1, e _ _ e2 codeO_ne⟩
    · rw [hu p hp hb]
      exact ⟨c', z, h2⟩
  · refine ⟨ps0, hk _ _ hb a1, a2, fun p' cv hcv => ?_⟩
    obtain ⟨c0, e1, e2⟩ := a3 p' cv hcv
    exact ⟨c0, e1, e _ _ e2 codeO_ne⟩
theorem lam_fin {T : List (Addr × Str)} {c P : Addr} {d : LamD} {dv : Value} {pos : Pos} {E : Value → Shared → Prop} {Q : Value → Shared → Prop} (I : Inv X pins σ H s) (TB : TabB X.base X.mg c P) (hcode : X.env.code = .ref c) (hm : (P, X.env.qual ++ "<lambda>") ∈ T) (hu : ∀ p ∈ T, p.1 = P → p.2 = X.env.qual ++ "<lambda>")
    (hT : Tabs T H) (L : LamS2 X.N X.env.scope d.scope) (hd : DfOk H d.df dv) (h : ∀ (f : Addr) (H1 : Hp) (s' : Shared), Inv X pins σ H1 s' → ExtN H H1 → Tabs T H1 → H f = none → LamAt X.env d f H1 → Q (.ref f) s') :
    wpAny (model X.prog X.w) X.A (makeTail "<lambda>" (X.env.qual ++ "<lambda>") d.ps (.expr d.body) d.scope X.env dv .none none pos pos.line) Q E s := by
  obtain ⟨ps, hP, ht, ha⟩ := hT _ hm
  have hP2 : s.heap.get? P = some { cls := .none, data := .fields ps } := I.hok P _ hP
  refine lam_tail (closure_ok (L.has I.ok)) I.ok.glob (I.mod.glob.keeps I.bk) hcode (TB.code.keeps I.bk) hP2 ht TB.gP (TB.bm.keeps I.bk) (fun cv ctv h' tk hc kp sz => ?_) (fun c' ctv h' tk hc hx ge lt hrec htb => ?_)
  · obtain ⟨c', e, hco⟩ := ha pos cv hc
    subst e
    have J : Inv X pins σ H { s with heap := h', toks := tk } := I.kept kp
    have nf : H h'.objs.size = none := I.hok.fresh sz
    have J2 := lamO_laid (env := X.env) (d := d) (c' := c') (dv := dv) (pm := (X.mg "__name__").getD .none) (ctv := ctv) J
    have sm := same_new (o := LamO X.env d c' dv h'.objs.size) nf
    exact h h'.objs.size _ _ J2 (ExtN.of sm) (hT.ext sm) nf ⟨c', dv, upd_same, sm _ _ hco, hd.keep fun b xs z => sm _ _ z⟩
  · obtain ⟨c2, oc, vs, t, e2, hoc, hdd, hv⟩ := hrec
    cases e2
    have nC : H c' = none := I.hok.fresh ge
    have nP : P ≠ c' := ne_of_none hP nC
    have J := inv_table (t' := tk) (q := X.env.qual ++ "<lambda>") (more := #[rawInt pos.line, rawInt pos.col, .ref c']) I hP hx htb ge ⟨oc, vs, t, hoc, hdd, hv⟩
    have J2 := lamO_laid (env := X.env) (d := d) (c' := c') (dv := dv) (pm := (X.mg "__name__").getD .none) (ctv := ctv) J
    obtain ⟨H2, eH2⟩ : ∃ H2, H2 = upd (upd H P (.tbl (ps ++ #[rawInt pos.line, rawInt pos.col, .ref c']))) c' (CodeO c' (X.env.qual ++ "<lambda>")) := ⟨_, rfl⟩
    rw [← eH2] at J2
    have n2 : H2 h'.objs.size = none := by
      rw [eH2, upd_ne (Nat.ne_of_gt lt), upd_ne (Nat.ne_of_gt (Nat.lt_of_lt_of_le (Heap.lt_size hP2) (Nat.le_of_lt (Nat.lt_of_le_of_lt ge lt))))]
      exact I.hok.fresh (Nat.le_of_lt (Nat.lt_of_le_of_lt ge lt))
    have sm := same_new (o := LamO X.env d c' dv h'.objs.size) n2
    have xE : ExtN H H2 := fun b o e n => by
      rw [eH2, upd_ne (ne_of_none e nC), upd_ne (fun z => n ps (Option.some.inj (e.symm.trans (by rw [z]; exact hP))))]
      exact e
    have hC2 : H2 c' = some (CodeO c' (X.env.qual ++ "<lambda>")) := by rw [eH2, upd_same]
    have hT2 : Tabs T H2 := tabs_at (c := c) hu hT ht hP xE (fun b ps' hb e => by rw [eH2, upd_ne (ne_of_none e nC), upd_ne hb]; exact e) (by rw [eH2, upd_ne nP, upd_same]) hC2
    refine h h'.objs.size _ _ J2 (xE.trans (ExtN.of sm)) (hT2.ext sm) (I.hok.fresh (Nat.le_of_lt (Nat.lt_of_le_of_lt ge lt))) ⟨c', dv, upd_same, sm _ _ hC2, hd.keep fun b xs z => ?_⟩
    exact sm _ _ (xE _ _ z fun _ w => by cases w)
theorem pe_lam {T : List (Addr × Str)} {c P : Addr} {d : LamD} {pos : Pos} (TB : TabB X.base X.mg c P) (hcode : X.env.code = .ref c) (hm : (P, X.env.qual ++ "<lambda>") ∈ T) (hu : ∀ p ∈ T, p.1 = P → p.2 = X.env.qual ++ "<lambda>")
    (L : LamS2 X.N X.env.scope d.scope) (hd : DefOk X.env d) : PE X (.Lambda d.ps d.body d.scope pos) (tMkLam T X.env d) := by
  refine ⟨fun pins s σ H Q I h => ?_⟩
  obtain ⟨hT, h⟩ := h
  obtain ⟨df, edf⟩ : ∃ df, df = d.df := ⟨_, rfl⟩
  have fin : ∀ (f : Addr) (H1 : Hp) (s' : Shared), Inv X pins σ H1 s' → ExtN H H1 → Tabs T H1 → H f = none → LamAt X.env d f H1 → EP X pins σ Q (.ref f) s' := fun f H1 s' I1 e t n l => ⟨.ref f, H1, I1, rfl, h f H1 e t n l⟩
  cases df with
  | none =>
    unfold DefOk at hd
    rw [← edf] at hd
    refine PySem.W.kla_eval hd ?_
    rw [makeFunction_eq]
    simp only [List.zip_nil_right, List.filterMap_nil, List.isEmpty_nil, if_true, pure_bind]
    exact lam_fin I TB hcode hm hu hT L (by rw [← edf]; rfl) fin
  | some x =>
    unfold DefOk at hd
    rw [← edf] at hd
    obtain ⟨j, p, hd⟩ := hd
    rw [arm_eval_Lambda, hd]
    refine wpAny_bind (wpAny_bind (thn (pe_int.run pins s σ H (fun v H1 => v = .int 0 ∧ H1 = H) I ⟨rfl, rfl⟩) fun u s1 ⟨v, H1, I1, r1, q1⟩ => wpAny_bind (wpAny_holding (wpAny_pure (wpAny_pure ?_)))))
    obtain ⟨ev, eH⟩ := q1
    subst ev
    rw [eH] at I1
    refine wpAny_bind (wpAny_holding (wpAny_pure ?_))
    rw [makeFunction_eq]
    simp only [List.zip_nil_right, List.filterMap_nil, List.isEmpty_nil, List.isEmpty_cons, Bool.false_eq_true, if_true, if_false, pure_bind]
    refine wpAny_bind (wpAny_newTextTuple ?_)
    have nT : H s1.heap.objs.size = none := I1.hok.fresh (Nat.le_refl _)
    have sm := same_new (o := .tup [.int 0]) nT
    have I2 : Inv X pins σ (upd H s1.heap.objs.size (.tup [.int 0])) { s1 with heap := s1.heap.push { cls := .type "tuple", data := .seq [u].toArray } } :=
      I1.laid (t' := s1.toks) (fun b o e => Heap.get?_push_of_some _ e) (Nat.le_refl _) ⟨by show 1 ≤ sizeLine; decide, [u], .cons r1 .nil, ⟨_, Heap.get?_push_size _ rfl, rfl, _, rfl⟩⟩
    exact lam_fin I2 TB hcode hm hu (hT.ext sm) L (by rw [← edf]; exact ⟨_, rfl, upd_same⟩) fun f H1 s' J e t n l => fin f H1 s' J ((ExtN.of sm).trans e) t (none_of' sm n) l
end
/-! ### a kept lambda called -/
section
variable {X : Cx} {pins : List (Addr × Obj)} {σ : L2.St} {H HZ : Hp} {s s1 : Shared}
/-- the frame of the body: bs its own names -/
theorem lam_enter {A : Around} {outer : List Env} {E : XK} {scope : Scope} {f c' : Addr} {h1 : Heap} {tk : Nat} {bs : List (Str × Value)} (I : Inv X pins σ H s) (L : LamS2 X.N X.env.scope scope) (e0 : Env0 X.prog X.w X.K X.mg X.base A outer s1 HZ) (hA : A.handled = none)
    (un : Un (frs X.stack) [] H HZ s.heap s1.heap) (ns : h1.Ns s1.heap.objs.size fun y => bs.reverse.lookup y) (kp : ∀ b o, s1.heap.get? b = some o → h1.get? b = some o) :
    Inv (lamCx X A outer s1 HZ E scope f c') [] σ HZ { s1 with heap := h1, toks := tk } := by
  have up : ∀ {y c}, (cloFrom X.env.cells scope.names []).lookup y = some c → X.env.cells.lookup y = some c := fun {y c} e => by
    rcases cloFrom_mem (PySem.mem_of_lookup e) with z | ⟨z1, z2⟩
    · cases z
    · obtain ⟨c1, hc⟩ := L.has I.ok _ z1 rfl
      have hc : X.env.cells.lookup y = some c1 := hc
      rw [z2, hc]
      rfl
  have isC : ∀ {c : Addr} {v : Option Value}, H c = none → s.heap.IsCell c v → h1.IsCell c v := fun {c v} n ⟨o, ho, hv⟩ => by
    obtain ⟨sl, z⟩ := un.any ho n (by simp)
    exact ⟨_, kp _ _ z, hv⟩
  have noA : ∀ b : Addr, b ∉ (lamCx X A outer s1 HZ E scope f c').ex := fun b z => absurd (show b ∈ ([] : List Addr) from z) (by simp)
  have cap : ∀ {y}, scope.names.lookup y = some .free → ∃ c, (cloFrom X.env.cells scope.names []).lookup y = some c := fun {y} hl =>
    mem_lookup (cloFrom_has (cells := X.env.cells) (acc := []) (PySem.mem_of_lookup hl))
  have okL : (lamCx X A outer s1 HZ E scope f c').Ok := by
    refine ⟨e0.mod, L.kind, rfl, rfl, Nat.le_refl _, fun y z c a b => I.ok.inj y z c (up a) (up b), fun y hy => ?_, fun y c z _ => ?_, fun _ => hA, Around.frames_deeper e0.frames, .inr ⟨rfl, rfl⟩, fun b z => absurd z (noA b), e0.bs, e0.bsz, fun b _ _ => noA b, fun b z => absurd z (noA b), e0.funs, e0.frf⟩
    · rcases (show scope.names.lookup y = some .cell ∨ scope.names.lookup y = some .free from hy) with k | k
      · exact absurd rfl (L.own _ (PySem.mem_of_lookup k)).1
      · exact cap k
    · have z : false = true := z
      cases z
  refine ⟨okL, rfl, e0.bare, Un.kept kp, ⟨_, ns, fun i y v a b hv => ?_⟩, fun y c e => ?_, e0.hok.fresh (Nat.le_refl _), fun y c e => ?_, fun p hp => absurd (show p ∈ ([] : List (Addr × Obj)) ++ [] from hp) (by simp), e0.hok.kept kp, I.len⟩
  · rcases (show Vis scope y from hv) with k | k | k
    · exact absurd (List.mem_of_getElem? (show X.N[i]? = some y from a)) ((L.own _ (PySem.mem_of_lookup k)).2 rfl)
    · exact absurd rfl (L.own _ (PySem.mem_of_lookup k)).1
    · obtain ⟨m, _, hl⟩ := I.loc
      have vis : Vis X.env.scope y := (L.free _ (PySem.mem_of_lookup k) rfl).elim (fun z => .inr (.inl z)) fun z => .inr (.inr z)
      obtain ⟨u, r, q⟩ := hl i y v a b vis
      obtain ⟨c2, e2⟩ := cap k
      refine ⟨u, r, .inr ⟨.inr k, c2, e2, ?_⟩⟩
      have c1 := up e2
      rcases q with ⟨loc, _⟩ | ⟨_, c3, e3, z⟩
      · rcases L.free _ (PySem.mem_of_lookup k) rfl with k2 | k2 <;> rw [show X.env.scope.names.lookup y = some .local from loc] at k2 <;> cases k2
      · rw [c1] at e3
        cases e3
        exact isC (I.freeC y _ c1) z
  · obtain ⟨u, z⟩ := I.cell y c (up e)
    exact ⟨u, isC (I.freeC y c (up e)) z⟩
  · obtain ⟨v, o, ho, hv⟩ := I.cell y c (up e)
    exact un.free c o ho (I.freeC y c (up e)) (by simp)
/-- the names that the call binds -/
theorem lam_binds {M : Model} {A : Around} {E : Value → Shared → Prop} {Q : List (Str × Value) → Shared → Prop} {d : LamD} {q : Str} {clo : List (Str × Addr)} {dv pm cv ctv : Value} (hb : BindOk d) (hk : HOk X.prog X.w HZ s1.heap) (hd : DfOk HZ d.df dv)
    (h : ∀ bs, (∀ y ∈ bs, d.scope.names.lookup y.1 = some .local) → Q bs s1) : wpAny M A (bindArgs (lamFn q d clo dv pm cv ctv) ⟨[], []⟩) Q E s1 := by
  obtain ⟨df, edf⟩ : ∃ df, df = d.df := ⟨_, rfl⟩
  unfold BindOk at hb
  rw [← edf] at hb hd
  cases df with
  | none =>
    have hd : dv = .none := hd
    rw [hd, hb]
    exact wpAny_pure (h [] fun y hy => by cases hy)
  | some x =>
    obtain ⟨td, e1, e2⟩ := hd
    obtain ⟨z, its, r, o, ho, hc, n, hdat⟩ := hk td _ e2
    obtain ⟨v, rfl⟩ : ∃ v, its = [v] := by
      have := r.length
      match its, this with
      | [v], _ => exact ⟨v, rfl⟩
    obtain ⟨k, b1, b2⟩ := hb.1 q clo td pm cv ctv v
    rw [e1, b1]
    refine wpAny_bind (wpAny_seqItems ho hdat ?_)
    rw [b2]
    exact wpAny_pure (h _ fun y hy => by
      rw [List.mem_singleton.mp hy]
      exact hb.2)
theorem pe_actG {CXg : CXT} {Eg : XK} {Ng : List Str} {qg : Str} {sg : Scope} {g f : Addr} {cdg : Value} {d : LamD} {k i : Nat} {a : Str} {pn : List (Addr × Obj)} {xe : Value → Shared → Prop} {W : WX} {tb : XK → TE} {p1 p2 : Pos}
    (I : Inv X pins σ H s) (L : LamS2 X.N X.env.scope d.scope) (hbo : BindOk d)
    (tk : Takes ((cxOf CXg X.prog X.w X.K X.mg X.base Ng qg sg g cdg X.A X.stack s H Eg).tr pn xe) W) (hr : Room (k + 1) (X.A.deeper (envOfC qg sg s.heap.objs.size g cdg)))
    (hbody : ∀ (E : XK) (A : Around) (outer : List Env) (s : Shared) (H : Hp) (c' : Addr), Room k (A.deeper (lamEnv X d.scope s.heap.objs.size f c')) → PE (lamCx X A outer s H E d.scope f c') d.body (tb E))
    (hN : Ng[i]? = some a) (hv : Vis sg a) (hd : (a == ("__debug__" : Str)) = false := by decide) (hcd : (a == ("__classdict__" : Str)) = false := by decide) :
    PE ((cxOf CXg X.prog X.w X.K X.mg X.base Ng qg sg g cdg X.A X.stack s H Eg).tr pn xe) (.Call (.Name a p1) [] [] p2)
      (fun σZ HZ Q => σZ[i]? = some (some (.ref f)) ∧ LamAt X.env d f HZ ∧ ∃ E : XK, (∀ cls d H', E cls d H' → W cls d σZ H') ∧ tb E σ HZ Q) := by
  refine ⟨fun pinsZ sZ σZ HZ Q IZ h => ?_⟩
  obtain ⟨hs, ⟨c', dv, h1, h2, h3⟩, E, hW, ht⟩ := h
  refine wpAny_Call_Name_kw (thn ((pe_var (pos := p1) (i := i) hN hv hd hcd).run pinsZ sZ σZ HZ (fun v H1 => v = .ref f ∧ H1 = HZ) IZ ⟨.ref f, hs, rfl, rfl⟩) fun u s1 ⟨v, H1, I1, r1, q1⟩ => ?_)
  obtain ⟨ev, eH⟩ := q1
  subst ev
  rw [eH] at I1
  obtain rfl : u = Value.ref f := r1
  obtain ⟨⟨pm, ctv, of1⟩, _, _⟩ := I1.hok f _ h1
  obtain ⟨⟨oc, vs, t, hoc, hdc, hvc⟩, _, _⟩ := I1.hok c' _ h2
  refine PySem.W.callWith_F0 ⟨_, _, _, _, of1⟩ ?_
  have un : Un (frs X.stack) [] H HZ s.heap s1.heap := I1.base
  have rc : codeAny (model X.prog X.w) (X.A.deeper (envOfC qg sg s.heap.objs.size g cdg)) (.call (.ref f) ⟨[], []⟩) (CR (L2.CX X.prog X.w) (envOfC qg sg s.heap.objs.size g cdg :: X.stack) X.prog X.w HZ s1 Q E) s1 := by
    refine PySem.W.kla_callFunE hr.depth of1 rfl L.co L.gen rfl ⟨c', oc, vs, t, rfl, hoc, hdc, hvc⟩ ?_
    refine lam_binds hbo I1.hok h3 fun bs hbs => ?_
    refine wpAny_newFunctionEnv (fun y hy => (L.own y hy).1) hbs (fun h₁ hns hsb => ⟨I1.nolimit.fresh _ hsb, ?_⟩) L.kind
    show codeAny _ _ (.expr d.body (lamEnv X d.scope s1.heap.objs.size f c')) _ _
    have kp : ∀ b o, s1.heap.get? b = some o → h₁.get? b = some o := fun b o e =>
      hsb.extBut b o (Nat.ne_of_lt (Heap.lt_size e)) (Heap.get?_push_of_some _ e)
    have J : Inv (lamCx X (X.A.deeper (envOfC qg sg s.heap.objs.size g cdg)) (envOfC qg sg s.heap.objs.size g cdg :: X.stack) s1 HZ E d.scope f c') [] σ HZ { s1 with heap := h₁, toks := s1.toks + bs.length } :=
      lam_enter I L I1.env0 hr.hd un hns kp
    refine PySem.W.kla_codeExpr (wpAny_mono ((hbody E _ _ s1 HZ c' (hr.deeper _)).run [] _ _ HZ Q J ht) (fun v s' hq => ?_) fun e s' hq => hq)
    obtain ⟨w', H', J', rv, q⟩ := hq
    exact ⟨w', H', J'.os, J'.bare, J'.base, J'.hok, rv, q⟩
  refine wpAny_call (codeAny_mono rc fun r s' hq => ?_)
  cases r with
  | error e => exact tk e s' (XE.of_call I1 (fun cls d H' => hW cls d H') hq)
  | ok fl =>
    cases fl with
    | ret u => exact I1.after hq
    | next => exact False.elim hq
    | brk => exact False.elim hq
    | cont => exact False.elim hq
end
/-! ### a comprehension whose element may look at the maker's frame -/
section
variable {X : Cx}
/-- what is known where the block starts -/
structure BlkAt (X : Cx) (pins : List (Addr × Obj)) (σ : L2.St) (H : Hp) (s : Shared) (fp : List Addr) : Prop where
  inv : Inv X pins σ H s
  fps : ∀ b ∈ fp, FpOk X pins H b ∧ b < s.heap.objs.size
theorem BlkAt.back {pins pins' : List (Addr × Obj)} {σ σ' : L2.St} {H H' : Hp} {s s' : Shared} {fp : List Addr} {scope : Scope} {ce : Env} (B : BlkAt X pins σ H s fp) (J : Inv (X.blk s H scope ce fp) pins' σ' H' s') : Inv X pins σ H' s' :=
  B.inv.call' (ch := fp) J.os J.base J.hok J.bare fun b hb => by
    obtain ⟨_, z1, _, z3, z4, z5⟩ := (B.fps b hb).1
    exact ⟨z3, z1, z4, z5⟩
def tLcI (wi : TI) (g : TG) (tt : TT) (te : L2.St → TE) (vs : List Nat) : TE := fun σ H Q => tLc wi g tt (te σ) vs σ H Q
theorem pe_lcI {elt tg iter : Expr} {ifs : List Expr} {scope : Scope} {own : List (Str × Nat)} {pos : Pos} {wi : TI} {g : TG} {tt : TT} {te : L2.St → TE} (hc : X.calm = true) (hN : X.N.Nodup) (hi : PI X tg iter wi) (ok : BlkOk X.N X.env.scope scope own)
    (hg : ∀ (s : Shared) (H : Hp) (C : Addr) (cl : List (Str × Addr)) (fp : List Addr), PG (X.blk s H scope (compEnvC scope cl C X.env) fp) tg g)
    (ht : ∀ (s : Shared) (H : Hp) (C : Addr) (cl : List (Str × Addr)) (fp : List Addr), PTs (X.blk s H scope (compEnvC scope cl C X.env) fp) ifs tt)
    (he : ∀ (s : Shared) (H : Hp) (C : Addr) (cl : List (Str × Addr)) (fp : List Addr) (pins : List (Addr × Obj)) (σ : L2.St), BlkAt X pins σ H s fp → PE (X.blk s H scope (compEnvC scope cl C X.env) fp) elt (te σ))
    (hs : ∀ x, foldedSetIterable iter X.env x = pure x := by intro _; rfl) :
    PE X (.ListComp elt [⟨tg, iter, ifs, 0⟩] scope pos) (tLcI wi g tt te (own.map (·.2))) := by
  refine ⟨fun pins s σ H Q I h => ?_⟩
  rw [eval_ListComp]
  have hfree : ∀ y ∈ scope.names, y.2 = .free → ∃ c, X.env.cells.lookup y.1 = some c := fun y hy e => (ok.free y hy e).elim (fun k => I.ok.has _ (.inl k)) fun k => I.ok.has _ (.inr k)
  refine wpAny_comprehension_free (use := none) rfl hs (closure_ok hfree) ok.kind (fun y hy e => by rw [ok.uniq y hy, e]) (thn (hi.run pins s σ H _ I h) fun xv s1 hx => thn hx fun itv s2 h2 => ?_)
  obtain ⟨it, fp, tn, J, H2, ei, I2, T, st2, f2, q⟩ := h2
  subst ei
  refine wpAny_newObj_type (newEnv_comp ?_) (by show 0 ≤ sizeLine; decide)
  obtain ⟨D, hD⟩ : ∃ D, D = s2.heap.objs.size := ⟨_, rfl⟩
  rw [← hD]
  obtain ⟨W, ⟨m0, w0⟩, turn⟩ := q D (I2.hok.fresh (Nat.le_of_eq hD.symm))
  -- the list is laid
  obtain ⟨s3, hs3⟩ : ∃ s3 : Shared, s3 = { s2 with heap := s2.heap.push { cls := .type "list", data := .seq ([] : List Value).toArray } } := ⟨_, rfl⟩
  have h3 : s3.heap = s2.heap.push { cls := .type "list", data := .seq ([] : List Value).toArray } := congrArg Shared.heap hs3
  have I3 : Inv X pins σ (upd H2 D (.lst [])) s3 := by
    rw [hs3, hD]
    exact I2.laid (t' := s2.toks) (fun b o e => Heap.get?_push_of_some _ e) (Nat.le_refl _) ⟨Nat.zero_le _, [], 0, .nil, Heap.get?_push_size _ rfl⟩
  have f3 : ∀ b ∈ fp, FpOk X pins (upd H2 D (.lst [])) b ∧ b < s3.heap.objs.size := fun b hb => by
    obtain ⟨o, eo, _⟩ := T.obj _ _ st2 b hb
    have lt : b < s2.heap.objs.size := Heap.lt_size eo
    refine ⟨⟨(upd_ne (Nat.ne_of_lt (hD ▸ lt))).trans (f2 b hb).1, (f2 b hb).2⟩, ?_⟩
    rw [h3, Heap.size_push]
    exact Nat.lt_succ_of_lt lt
  have st3 : tn 0 s3.heap := T.keep _ _ _ st2 fun b _ o e => h3 ▸ Heap.get?_push_of_some _ e
  have I4 := block_start I3 ok hN f3
  obtain ⟨H3, hH3⟩ : ∃ H3, H3 = upd H2 D (.lst []) := ⟨_, rfl⟩
  rw [← hH3] at I3 f3 I4 w0
  have B3 : BlkAt X pins σ H3 s3 fp := ⟨I3, f3⟩
  obtain ⟨cl, hcl⟩ : ∃ cl, cl = cellsFrom (s3.heap.objs.size + 1) scope.names (cloFrom X.env.cells scope.names []) := ⟨_, rfl⟩
  rw [← hcl] at I4
  have pg := hg s3 H3 s3.heap.objs.size cl fp
  have pt := ht s3 H3 s3.heap.objs.size cl fp
  have pe := he s3 H3 s3.heap.objs.size cl fp pins σ B3
  have goal0 : codeAny (model X.prog X.w) X.A (.compStart (.ListComp elt [⟨tg, iter, ifs, 0⟩] scope pos) 0 (.ref it) (.ref D) (compEnvC scope cl s3.heap.objs.size X.env)) (compPost (model X.prog X.w) X.A X.xe none (EP X pins σ Q) (.ref D) s3.heap.objs.size) { s3 with heap := pushCells (s3.heap.push { cls := .type "dict", data := .dict #[] }) scope.names } → _ := fun z => z
  rw [hcl, h3, hs3] at goal0
  refine goal0 ?_
  rw [← hs3, ← h3, ← hcl]
  have hnp : ∀ b ∈ fp, H3 b = none := fun b hb => (f3 b hb).1.1
  obtain ⟨ce, hce⟩ : ∃ ce, ce = compEnvC scope cl s3.heap.objs.size X.env := ⟨_, rfl⟩
  rw [← hce] at pg pt pe I4 ⊢
  have cL : ce.locals = s3.heap.objs.size := by
    rw [hce] <;> rfl
  obtain ⟨s4, hs4⟩ : ∃ s4 : Shared, s4 = { s3 with heap := pushCells (s3.heap.push { cls := .type "dict", data := .dict #[] }) scope.names } := ⟨_, rfl⟩
  rw [← hs4] at I4 ⊢
  have st4 : tn 0 s4.heap := T.keep _ _ _ st3 fun b _ o e => by
    rw [hs4]
    exact pushCells_keeps _ _ _ _ (Heap.get?_push_of_some _ e)
  have stat : ∀ {σ' : L2.St} {H' : Hp} {s' : Shared}, Inv (X.blk s3 H3 scope ce fp) [] σ' H' s' → (∀ b ∈ fp, H' b = none) → ∀ b ∈ fp, FpOk (X.blk s3 H3 scope ce fp) [] H' b := fun {σ' H' s'} J hn b hb =>
    ⟨hn b hb, (J.ok.exf b hb).1, J.ok.exfs b hb, .inl hb, fun x c e => (J.ok.exf b hb).2 x c e, fun p hp => absurd (show p ∈ ([] : List (Addr × Obj)) ++ [] from hp) (by simp)⟩
  have loop : codeAny (model X.prog X.w) X.A (.compLoop (.ListComp elt [⟨tg, iter, ifs, 0⟩] scope pos) 0 (.ref it) (.ref D) ce) (compPost (model X.prog X.w) X.A X.xe none (EP X pins σ Q) (.ref D) s3.heap.objs.size) s4 := by
    refine compLoop_any (fun n s' => ∃ i H', Inv (X.blk s3 H3 scope ce fp) [] (wipe σ (own.map (·.2))) H' s' ∧ tn i s'.heap ∧ (∀ b ∈ fp, H' b = none) ∧ W i n H') ?_ m0 ⟨0, H3, I4, st4, hnp, w0⟩
    rintro n s5 ⟨i, H5, I5, st5, n5, w5⟩
    rcases turn i n H5 w5 with ⟨stop, qq⟩ | ⟨go, Nx, hNx, step⟩
    · refine thnF (T.done (X.blk s3 H3 scope ce fp) rfl rfl rfl hc i [] s5 _ H5 (fun _ _ => False) I5 (stat I5 n5) st5 stop) fun r s6 ⟨hr, I6⟩ => ?_
      subst hr
      have I7 : Inv X pins σ H5 s6 := B3.back I6
      have nC : H5 s3.heap.objs.size = none := cL ▸ (show H5 ce.locals = none from I6.free)
      obtain ⟨m, hm, _⟩ := I6.loc
      have hm2 : s6.heap.Ns s3.heap.objs.size m := cL ▸ (show s6.heap.Ns ce.locals m from hm)
      obtain ⟨z0, z1, z2, z3, z4, z5⟩ := I3.fpOk (Nat.le_refl _) nC
      exact ⟨m, hm2, fun h'' sb => ⟨.ref D, H5, I7.turned (t' := s6.toks) (fun b o hb e => (sb.2 b hb).trans e) z0 z1 z3 z4 z5, rfl, qq⟩⟩
    · refine thnF (T.item (X.blk s3 H3 scope ce fp) rfl rfl rfl hc i [] s5 _ H5 (fun _ _ => False) I5 (stat I5 n5) st5 go) fun r s6 ⟨u, hr, h6⟩ => ?_
      subst hr
      refine thnF h6 fun _ s7 ⟨x, H7, I7, r7, y7, st7, n7⟩ => ?_
      refine thnF (pg.run _ s7 _ H7 x u _ (I7.pinned (stat I7 n7) (T.obj _ _ st7)) r7 (step x H7 y7)) fun _ s8 ⟨σ8, H8, I8, hw8, q8⟩ => ?_
      refine thnF (pt.run _ s8 σ8 H8 _ I8 q8) fun b s9 ⟨H9, I9, q9⟩ => ?_
      have fin : ∀ {s' : Shared} {H' : Hp}, Inv (X.blk s3 H3 scope ce fp) ([] ++ pinsAt fp s7.heap) σ8 H' s' → Nx H' → ∃ m, m < n ∧ ∃ i H', Inv (X.blk s3 H3 scope ce fp) [] (wipe σ (own.map (·.2))) H' s' ∧ tn i s'.heap ∧ (∀ b ∈ fp, H' b = none) ∧ W i m H' := fun {s' H'} J nx => by
        obtain ⟨m', lm, w'⟩ := hNx H' nx
        have pin' : ∀ b ∈ fp, ∀ o, s7.heap.get? b = some o → s'.heap.get? b = some o ∧ H' b = none := fun b hb o e => ⟨(J.pin (b, o) (List.mem_append_right _ (List.mem_append_right _ (mem_pinsAt hb e)))).1, (J.pin (b, o) (List.mem_append_right _ (List.mem_append_right _ (mem_pinsAt hb e)))).2.1⟩
        refine ⟨m', lm, i + 1, H', (J.unpinned (pins := [])).weak (by rw [← hw8, wipe_length]) (fun j v e => (wipe_some (hw8 ▸ e)).1), T.keep _ _ _ st7 fun b hb o e => (pin' b hb o e).1, fun b hb => ?_, w'⟩
        obtain ⟨o, e, _⟩ := T.obj _ _ st7 b hb
        exact (pin' b hb o e).2
      cases b with
      | false =>
        simp only [Bool.false_eq_true, if_false] at q9 ⊢
        exact fin I9 q9
      | true =>
        simp only [if_true] at q9 ⊢
        refine thnF (pe.run _ s9 σ8 H9 _ I9 q9) fun z s10 ⟨yk, H10, I10, r10, acc, hD10, hz10, nx⟩ => ?_
        exact app_ok (X := X.blk s3 H3 scope ce fp) I10 hD10 hz10 r10 fun s12 I12 => fin I12 nx
  exact codeAny_compStart_list loop (T.self X.A 0 _ _ _ st4 loop)
end
/-! ### a def that calls what it got, handed a kept lambda -/
/-- Gd: what is known of the lambda's objects -/
def GivesG (X : Cx) (Ng : List Str) (x : Str) (sg : Scope) (g : Addr) (cdg : Value) (bg : List Stmt) (TT : (XK → Hp → VK → Prop) → Hp → VK → Prop) (a : Str) : Prop :=
  ∀ (f : Addr) (Gd : Hp → Prop) (s : Shared) (H : Hp) (Q : VK) (tl : XK → Hp → VK → Prop), (∀ H H', Same H H' → Gd H → Gd H') →
    (∀ (W : WX) (pn : List (Addr × Obj)) (xe : Value → Shared → Prop) (p1 p2 : Pos), Takes ((cxOf CX0 X.prog X.w X.K X.mg X.base Ng x sg g cdg X.A X.stack s H E0).tr pn xe) W →
      PE ((cxOf CX0 X.prog X.w X.K X.mg X.base Ng x sg g cdg X.A X.stack s H E0).tr pn xe) (.Call (.Name a p1) [] [] p2) (fun σZ HZ Q => σZ[0]? = some (some (.ref f)) ∧ Gd HZ ∧ ∃ E : XK, (∀ cls d H', E cls d H' → W cls d σZ H') ∧ tl E HZ Q)) →
    Gd H → TT tl H Q → ∃ t, PSs (cxOf CX0 X.prog X.w X.K X.mg X.base Ng x sg g cdg X.A X.stack s H E0).nox bg t ∧ t { nx := fun _ H' => Q .non H', rt := Q } (L2.start Ng [.ref f]) H
theorem GivesG.s {X : Cx} {Ng : List Str} {x : Str} {sg : Scope} {g : Addr} {cdg : Value} {bg : List Stmt} {TT : (XK → Hp → VK → Prop) → Hp → VK → Prop} {a q : Str} (h : GivesG X Ng x sg g cdg bg TT a) : GivesS X Ng x sg g cdg bg a q TT :=
  fun f c' s H Q tl act hc ht => h f (fun H => H c' = some (CodeO c' q)) s H Q tl (fun _ _ e z => e _ _ z) act hc ht
/-- the lambdas that may come, each with its body's reading -/
def FamOk (X : Cx) (k : Nat) (fam : List (LamD × (XK → TE))) : Prop := ∀ q ∈ fam, LamS2 X.N X.env.scope q.1.scope ∧ BindOk q.1 ∧
  ∀ (A : Around) (outer : List Env) (s : Shared) (H : Hp) (E : XK) (f c' : Addr), Room k (A.deeper (lamEnv X q.1.scope s.heap.objs.size f c')) → PE (lamCx X A outer s H E q.1.scope f c') q.1.body (q.2 E)
/-- x(y), y a lambda of the family; σ: the maker's slots -/
def tLamV (env : Env) (fam : List (LamD × (XK → TE))) (TT : (XK → Hp → VK → Prop) → Hp → VK → Prop) (j : Nat) (σ0 : L2.St) : TE := fun σ H Q => ∃ f, σ[j]? = some (some (.ref f)) ∧ ∃ q ∈ fam, LamAt env q.1 f H ∧ TT (fun E H' Q' => q.2 E σ0 H' Q') H Q
section
variable {X : Cx} {pins : List (Addr × Obj)} {σ : L2.St} {H : Hp} {s : Shared}
theorem call_kept {TT : (XK → Hp → VK → Prop) → Hp → VK → Prop} {x a : Str} {g f : Addr} {k : Nat} {pg : Arguments} {bg : List Stmt} {sg : Scope} {dV kV doc pm cdv ct oc : Value} {an od : Option Addr} {osl : Array (Option Value)} {Ng : List Str} {fam : List (LamD × (XK → TE))} {q : LamD × (XK → TE)} {Q : VK}
    (I : Inv X pins σ H s) (lk : X.K.lookup g = some ⟨oc, od, .func (PySem.W.fnOf x x pg bg sg dV kV doc pm an cdv ct), osl⟩) (hcg : PySem.W.codeIn X.K cdv x = true) (hb : L2.Binds X.K (PySem.W.fnOf x x pg bg sg dV kV doc pm an cdv ct) [a] []) (Sg : FnScope Ng [a] sg) (hNg : Ng[0]? = some a) (hva : Vis sg a)
    (hG : GivesG X Ng x sg g cdv bg TT a) (hr : Room (k + 2) X.A) (hF : FamOk X k fam) (hq : q ∈ fam) (hl : LamAt X.env q.1 f H) (ht : TT (fun E H' Q' => q.2 E σ H' Q') H Q) (hd : (a == ("__debug__" : Str)) = false) (hcd : (a == ("__classdict__" : Str)) = false) :
    codeAny (model X.prog X.w) X.A (.call (.ref g) ⟨[.ref f], []⟩) (CR CX0 X.stack X.prog X.w H s Q E0) s := by
  obtain ⟨L, bo, body⟩ := hF q hq
  refine run_ofS (N := Ng) (ps := [a]) (us := [.ref f]) (vs := [.ref f]) lk hcg Sg hr I.env0 (hb s [.ref f] I.kIn rfl) (.cons rfl .nil) rfl fun hr' => ?_
  obtain ⟨t', ht', hq'⟩ := hG f (LamAt X.env q.1 f) s H Q (fun E H' Q' => q.2 E σ H' Q') (fun _ _ e z => z.same e) (fun W pn xe p1 p2 tk => pe_actG (i := 0) I L bo tk hr' (fun E A outer s H c' hr2 => body A outer s H E f c' hr2) hNg hva hd hcd) hl ht
  exact ⟨t', ht'.nox, hq'⟩
/-- the same within a comprehension's block -/
theorem pe_keptB {TT : (XK → Hp → VK → Prop) → Hp → VK → Prop} {x a y : Str} {g : Addr} {k j : Nat} {pg : Arguments} {bg : List Stmt} {sg : Scope} {dV kV doc pm cdv ct oc : Value} {an od : Option Addr} {osl : Array (Option Value)} {Ng : List Str} {fam : List (LamD × (XK → TE))} {fp : List Addr} {scope : Scope} {ce : Env} {p py pos : Pos}
    (B : BlkAt X pins σ H s fp) (hg : Gl (X.blk s H scope ce fp) x) (hm : X.mg x = some (.ref g)) (hk : PySem.W.keepIn X.K (.ref g) = true) (lk : X.K.lookup g = some ⟨oc, od, .func (PySem.W.fnOf x x pg bg sg dV kV doc pm an cdv ct), osl⟩) (hcg : PySem.W.codeIn X.K cdv x = true)
    (hb : L2.Binds X.K (PySem.W.fnOf x x pg bg sg dV kV doc pm an cdv ct) [a] []) (Sg : FnScope Ng [a] sg) (hNg : Ng[0]? = some a) (hva : Vis sg a) (hG : GivesG X Ng x sg g cdv bg TT a) (hr : Room (k + 2) X.A) (hF : FamOk X k fam) (hy : PE (X.blk s H scope ce fp) (.Name y py) (tVar j))
    (hdb : (x == ("__debug__" : Str)) = false := by decide) (hd : (a == ("__debug__" : Str)) = false := by decide) (hcd : (a == ("__classdict__" : Str)) = false := by decide) :
    PE (X.blk s H scope ce fp) (.Call (.Name x p) [.Name y py] [] pos) (tLamV X.env fam TT j σ) := by
  refine ⟨fun pins' s' σ' H' Q J h => ?_⟩
  obtain ⟨f, hj, q, hq, hl, ht⟩ := h
  refine wpAny_Call_Name_kw (ld_glob J hg hm ?_ hdb)
  refine PySem.W.callWith_K (h₀ := X.base) J.ok.mod.kin hk ?_ (by rfl) (by rfl)
  show wpAny _ _ (spliced ((false, eval (.Name y py) ce) :: backTo pos (starEach [] ce))) _ _ s'
  refine Calls.spliced_cons (thn (hy.run pins' s' σ' H' (fun v H1 => v = .ref f ∧ H1 = H') J ⟨.ref f, hj, rfl, rfl⟩) fun u s1 ⟨v, H1, J1, r1, e1, e2⟩ => ?_)
  subst e1
  rw [e2] at J1
  obtain rfl : u = Value.ref f := r1
  refine Calls.spliced_nil ⟨J1.kIn, ?_⟩
  have rc := call_kept (B.back J1) lk hcg hb Sg hNg hva hG hr hF hq hl ht hd hcd
  refine wpAny_call (codeAny_mono rc fun r s2 z => ?_)
  cases r with
  | error e => exact (show False from z).elim
  | ok fl =>
    cases fl with
    | ret u => exact J1.after z
    | next => exact False.elim z
    | brk => exact False.elim z
    | cont => exact False.elim z
end
/-! ### where a lambda stands in a def's text -/
def kids : Stmt → List Stmt
  | .For _ _ b e _ => b ++ e
  | .While _ b e _ => b ++ e
  | .If _ b e _ => b ++ e
  | _ => []
def stAt (b : List Stmt) : List Nat → Stmt
  | [] => .Pass ⟨0, 0, 0, 0⟩
  | [i] => b.getD i (.Pass ⟨0, 0, 0, 0⟩)
  | i :: r => stAt (kids (b.getD i (.Pass ⟨0, 0, 0, 0⟩))) r
def noE : Expr := .Name "" ⟨0, 0, 0, 0⟩
def stE : Stmt → Expr
  | .Assign _ v _ => v
  | .Expr v _ => v
  | .Return (some v) _ => v
  | .If t _ _ _ => t
  | _ => noE
def exKids : Expr → List Expr
  | .List es _ => es
  | .Tuple es _ _ => es
  | .BinOp a _ b _ => [a, b]
  | .Call f as _ _ => f :: as
  | .Dict _ vs _ => vs
  | .Compare a _ bs _ => a :: bs
  | .BoolOp _ vs _ => vs
  | .UnaryOp _ v _ => [v]
  | .Subscript a b _ => [a, b]
  | _ => []
def exAt (e : Expr) : List Nat → Expr
  | [] => e
  | i :: r => exAt ((exKids e).getD i noE) r
def lamOf (df : Option Str) : Expr → LamD
  | .Lambda ps body scope _ => ⟨ps, body, scope, df⟩
  | _ => ⟨{ posonlyargs := [], args := [], vararg := none, kwonlyargs := [], kw_defaults := [], kwarg := none, defaults := [] }, noE, defScope (.Pass ⟨0, 0, 0, 0⟩), df⟩
def lamAt (b : List Stmt) (p q : List Nat) (df : Option Str) : LamD := lamOf df (exAt (stE (stAt b p)) q)
theorem famN {X : Cx} {k : Nat} : FamOk X k [] := fun _ h => by cases h
theorem famC {X : Cx} {k : Nat} {d : LamD} {t : XK → TE} {fam : List (LamD × (XK → TE))} (L : LamS2 X.N X.env.scope d.scope) (b : BindOk d)
    (body : ∀ (A : Around) (outer : List Env) (s : Shared) (H : Hp) (E : XK) (f c' : Addr), Room k (A.deeper (lamEnv X d.scope s.heap.objs.size f c')) → PE (lamCx X A outer s H E d.scope f c') d.body (t E)) (r : FamOk X k fam) : FamOk X k ((d, t) :: fam) := fun q hq => by
  rcases List.mem_cons.mp hq with e | h
  · subst e
    exact ⟨L, b, body⟩
  · exact r q h
end CT

/-! The law's own def, its tables; calls by keywords alone. -/
namespace CT
open PySem PySem.Spec PySem.Calls PyProof.Rows L2 He LamX
section
variable {P : Program} {w : World} {K : PySem.W.Frag} {mg : Str → Option Value} {base : Heap} {n : Str} {st : Stmt} {CX : CXT} {N ps : List Str} {k : Nat} {sp : Sp}
/-- as FunD.ok, the code object known -/
theorem okC {fd : FuncData} (F : FunD K n n (defArgs st) (defBody st) (defScope st) [] [] (ga K n) fd) (S : FnScope N ps (defScope st))
    (len : ∀ vs H Q E, sp vs H Q E → vs.length = ps.length)
    (hbody : ∀ (A : Around) (outer : List Env) (s : Shared) (H : Hp) (vs : List V) (Q : VK) (E : XK), Room k (A.deeper (envOfC n (defScope st) s.heap.objs.size (ga K n) (.ref (codeOf K (n, none))))) → sp vs H Q E →
      ∃ t, PSs (cxOf CX0 P w K mg base N n (defScope st) (ga K n) (.ref (codeOf K (n, none))) A outer s H E).nox (defBody st) t ∧ t { nx := fun _ H' => Q .non H', rt := Q } (L2.start N vs) H) :
    FnOk P w K mg base CX0 (k + 1) (ga K n) fd ps sp := by
  obtain ⟨oc, od, dV, kV, doc, pm, an, cdv, ct, osl, rfl, lk, hcd, _, _⟩ := F.ex
  obtain ⟨c, ec⟩ := codeIn_ref hcd
  have e2 : codeOf K (n, none) = c := codeOf_eq (p := (n, none)) lk ec
  subst ec
  rw [e2] at hbody
  refine fn_of lk hcd S len fun A outer s H vs Q E hr hsp => ?_
  obtain ⟨t, ht, hq⟩ := hbody A outer s H vs Q E hr hsp
  exact ⟨t, ht.nox, hq⟩
end
section
variable {X : Cx} {CX : CXT} {k : Nat} {f : Addr} {fd : FuncData} {ps ks : List Str} {sp : Sp} {E : XK} {x : Str} {p pos : Pos} {kws : List Keyword} {tk : TA} {g : List Value → List Value → List Value} {gV : List V → List V → List V}
/-- f(k = v, ..) -/
theorem pe_callN0 (F : FnOk X.prog X.w X.K X.mg X.base CX k f fd ps sp) (hr : Room k X.A) (hg : Gl X x) (hm : X.mg x = some (.ref f)) (hk : PySem.W.keepIn X.K (.ref f) = true) (hb : KBn X.K fd ps 0 ks g gV) (hx : Passes CX X E) (hkw : PK X kws tk)
    (hall : (backToKw pos (keywordEach kws X.env)).all (·.1.isSome) = true := by rfl) (hks : (backToKw pos (keywordEach kws X.env)).filterMap (·.1) = ks := by rfl) (hdb : (x == ("__debug__" : Str)) = false := by decide)
    (hpl : ((backTo pos (starEach [] X.env)).any (·.1) || (backToKw pos (keywordEach kws X.env)).any (·.1.isNone)) = false := by rfl) :
    PE X (.Call (.Name x p) [] kws pos) (tCallN 0 ks.length sp gV E tNil tk) := by
  refine ⟨fun pins s σ H Q I h => ?_⟩
  refine wpAny_Call_Name_kw (ld_glob I hg hm ?_ hdb)
  refine PySem.W.callWith_KW0 (h₀ := X.base) I.ok.mod.kin hk hall ?_ hpl
  refine thn (hkw.run pos pins s σ H _ I h) fun ws s2 ⟨zs, H2, I2, rz, l1, l2, q2⟩ => ⟨I2.kIn, ?_⟩
  rw [hks]
  exact run_fnN (us := []) (vs := []) F hr hb hx I2 .nil rz rfl l2 q2
end
/-! ### tables -/
theorem Tabs.but {T : List (Addr × Str)} {H H' : Hp} {p : Addr} {xs : List V} (t : Tabs T H) (hp : H p = some (.lst xs)) (e : ∀ b o, b ≠ p → H b = some o → H' b = some o) : Tabs T H' := fun q hq => by
  obtain ⟨ps, h1, h2, h3⟩ := t q hq
  refine ⟨ps, e _ _ (ne_of h1 hp fun z => by cases z) h1, h2, fun pos cv hc => ?_⟩
  obtain ⟨c, e1, e2⟩ := h3 pos cv hc
  refine ⟨c, e1, e _ _ (ne_of e2 hp fun z => ?_) e2⟩
  unfold CodeO at z
  cases z
theorem Tabs.same {T : List (Addr × Str)} {H H' : Hp} (t : Tabs T H) (e : Same H H') : Tabs T H' := t.ext e
theorem but_upd {H : Hp} {p : Addr} {x : HO} : ∀ b o, b ≠ p → H b = some o → upd H p x b = some o := fun b o h e => by
  rw [upd_ne h]
  exact e
/-- what the lambda's body lets out goes to what is wished -/
theorem pass_lam {X : Cx} {A : Around} {outer : List Env} {s : Shared} {H : Hp} {E : XK} {scope : Scope} {f c' : Addr} : Passes (L2.CX X.prog X.w) (lamCx X A outer s H E scope f c') E :=
  passes_call (W := fun cls d _ H => E cls d H) (takes_of rfl rfl rfl rfl) fun _ _ _ _ h => h
end CT
namespace CT
open PySem PySem.Spec PySem.Calls PyProof.Rows L2 He
/-! ### what is told is what is due -/
def toData : V → PyData
  | .bl b => .bool b
  | .int i => .int i
  | .str x => .str x
  | _ => .none
def okData : V → Bool
  | .non | .bl _ | .int _ => true
  | .str x => (PyData.str x).canLay0
  | _ => false
theorem dp_flat {K : PySem.W.Frag} {H : Hp} : ∀ {v : V}, okData v = true → Dp K H v (toData v)
  | .non, _ => .non
  | .bl b, _ => .bl b
  | .int i, _ => .int i
  | .str x, _ => .str x
theorem lay_flat : ∀ {v : V}, okData v = true → (toData v).canLay0 = true ∧ (toData v).depth = 0 ∧ PyData.eqv (toData v) (toData v) = true
  | .non, _ => by simp [toData, PyData.canLay0, PyData.depth, PyData.eqv]
  | .bl b, _ => by simp [toData, PyData.canLay0, PyData.depth, PyData.eqv]
  | .int i, _ => by simp [toData, PyData.canLay0, PyData.depth, PyData.eqv]
  | .str x, h => by
    refine ⟨h, ?_, ?_⟩ <;> simp [toData, PyData.depth, PyData.eqv]
theorem ne_told {K : PySem.W.Frag} {H : Hp} {a b : Addr} {x v : V} {Q : VK} (ha : SqT K H a [x, v]) (hb : SqT K H b [x, v]) (hx : okData x = true) (hv : okData v = true) (q : Q (.bl false) H) : rNeD K (.ref a) (.ref b) H Q := by
  obtain ⟨x1, x2, x3⟩ := lay_flat hx
  obtain ⟨v1, v2, v3⟩ := lay_flat hv
  have sh : SeqAt.shaped (.tuple [toData x, toData v]) = true := by
    simp [SeqAt.shaped, PyData.canLay0, PyData.canLayAll0, PyData.depth, PyData.depthAll, x1, x2, v1, v2]
  refine ⟨_, _, .tup ha (.cons (dp_flat hx) (.cons (dp_flat hv) .nil)), .tup hb (.cons (dp_flat hx) (.cons (dp_flat hv) .nil)), sh, sh, ?_⟩
  have e : PyData.eqv (.tuple [toData x, toData v]) (.tuple [toData x, toData v]) = true := by simp [PyData.eqv, PyData.eqvAll, x3, v3]
  rw [e]
  exact q
end CT
namespace CT
open PySem PySem.Spec PySem.Calls PyProof.Rows L2 He
theorem exm_at {K : PySem.W.Frag} {n m : Str} {b : Bool} (c : (Fa.exm n m b).ok K = true) (e : b = decide (n = m) := by decide +kernel) : PySem.W.exmOne K (.ref (ga K n)) (.ref (ga K m)) = some (decide (n = m)) := by
  rw [← e]
  exact exm_ok c
theorem whyC_of {K : PySem.W.Frag} {n file : Str} {x : Option Str} (E : ErrC K n x file) (h : ∀ m ∈ whyNames, PySem.W.exmOne K (.ref (ga K n)) (.ref (ga K m)) = some (decide (n = m))) : WhyC K n x := ⟨E.xf, E.tag, fun y e => E.fld y e, h⟩
end CT
namespace CT
open PySem PySem.Spec PySem.Calls PyProof.Rows L2 He
theorem eq_told {K : PySem.W.Frag} {H : Hp} {a b : Addr} {x v : V} {Q : VK} (ha : SqT K H a [x, v]) (hb : SqT K H b [x, v]) (hx : okData x = true) (hv : okData v = true) (q : Q (.bl true) H) : rEqD K (.ref a) (.ref b) H Q := by
  obtain ⟨x1, x2, x3⟩ := lay_flat hx
  obtain ⟨v1, v2, v3⟩ := lay_flat hv
  have sh : SeqAt.shaped (.tuple [toData x, toData v]) = true := by
    simp [SeqAt.shaped, PyData.canLay0, PyData.canLayAll0, PyData.depth, PyData.depthAll, x1, x2, v1, v2]
  refine ⟨_, _, .tup ha (.cons (dp_flat hx) (.cons (dp_flat hv) .nil)), .tup hb (.cons (dp_flat hx) (.cons (dp_flat hv) .nil)), sh, sh, ?_⟩
  have e : PyData.eqv (.tuple [toData x, toData v]) (.tuple [toData x, toData v]) = true := by simp [PyData.eqv, PyData.eqvAll, x3, v3]
  rw [e]
  exact q
end CT
namespace CT
open PySem PySem.Spec PySem.Calls PyProof.Rows L2 He
theorem sqT_ext {K : PySem.W.Frag} {H H' : Hp} {a : Addr} {xs : List V} (e : LamX.ExtN H H') (h : SqT K H a xs) : SqT K H' a xs := by
  rcases h with (h | ⟨o, h⟩) | h
  · exact .inl (.inl (e _ _ h fun _ z => by cases z))
  · exact .inl (.inr ⟨o, e _ _ h fun _ z => by cases z⟩)
  · exact .inr h
theorem sqL_ext {K : PySem.W.Frag} {H H' : Hp} {a : Addr} {xs : List V} (e : LamX.ExtN H H') (h : SqL K H a xs) : SqL K H' a xs := by
  rcases h with (h | ⟨o, h⟩) | h
  · exact .inl (.inl (e _ _ h fun _ z => by cases z))
  · exact .inl (.inr ⟨o, e _ _ h fun _ z => by cases z⟩)
  · exact .inr h
end CT

/-! Texts: backwards. -/
namespace CT
open PySem PySem.Spec PySem.Calls PyProof.Rows L2
/-- the text backwards -/
def revS (z : Str) : Str := ⟨z.cps.toList.reverse.toArray⟩
theorem rev_pick (z : Str) : (Builtin.Str.strSliceIndices none none (-1) z.length).filterMap (z.cps[·]?) = z.cps.toList.reverse := by
  have e : Builtin.Str.strSliceIndices none none (-1) z.length = (List.range z.cps.size).map fun k => z.cps.size - 1 - k := PySem.W.krv_sliceRange z.cps.size
  rw [e, PySem.W.krv_range, List.filterMap_reverse, PySem.W.krv_all]
def tRevS (te : TE) : TE := fun σ H Q => te σ H fun x H1 => ∃ z : Str, x = .str z ∧ z.length ≤ sizeLine ∧ Q (.str (revS z)) H1
theorem pe_revS {X : Cx} {e : Expr} {te : TE} {k : Nat} {p1 p2 p3 pos : Pos} (he : PE X e te) : PE X (.Subscript e (.Slice none none (some (.UnaryOp .USub (.Constant (.int 1) k p1) p2)) p3) pos) (tRevS te) := by
  refine ⟨fun pins s σ H Q J h => ?_⟩
  refine Subscript_ (thn (he.run pins s σ H _ J h) fun v s1 ⟨x, H1, J1, r1, q1⟩ => ?_)
  obtain ⟨z, ex, hz, q⟩ := q1
  subst ex
  obtain ⟨t, rfl⟩ := r1
  have back : PO X (some (.UnaryOp .USub (.Constant (.int 1) k p1) p2)) (tPart (tUn (rU fun i => .int (-i)) (tC (.int 1)))) := po_some (pe_un un_neg pe_int)
  refine wpAny_Slice (thn (po_none.run pins s1 σ H1 (fun o H2 => o = none ∧ H2 = H1) J1 ⟨rfl, rfl⟩) fun va s2 ⟨l, H2, J2, pa, el, e2⟩ => ?_)
  subst el e2
  refine thn (po_none.run pins s2 σ H2 (fun o H3 => o = none ∧ H3 = H2) J2 ⟨rfl, rfl⟩) fun vb s3 ⟨u, H3, J3, pb, eu, e3⟩ => ?_
  subst eu e3
  refine thn (back.run pins s3 σ H3 (fun o H4 => o = some (-1) ∧ H4 = H3) J3 ⟨1, rfl, -1, rfl, rfl, rfl⟩) fun vc s4 ⟨o, H4, J4, pc, eo, e4⟩ => ?_
  subst eo e4
  obtain ⟨la, rfl, ha⟩ := IsPart.raw pa
  obtain ⟨lb, rfl, hb⟩ := IsPart.raw pb
  obtain ⟨lc, rfl, hc⟩ := IsPart.raw pc
  have J5 : Inv X pins σ H4 { s4 with heap := s4.heap.push { cls := .type "slice", data := .fields #[partValue la, partValue lb, partValue lc] } } := J4.kept (t' := s4.toks) fun b ob q => Heap.get?_push_of_some _ q
  show wpAny (model X.prog X.w) X.A (subscriptTail e (.Slice none none (some (.UnaryOp .USub (.Constant (.int 1) k p1) p2)) p3) (.str z t) (.ref s4.heap.objs.size)) (EP X pins σ Q) X.xe { s4 with heap := s4.heap.push { cls := .type "slice", data := .fields #[partValue la, partValue lb, partValue lc] } }
  refine tail_any (ops := [.str z t, .ref s4.heap.objs.size]) (typeIs_str _ _ _) F.slot_str_getitem.lookup ?_ (by with_unfolding_all rfl)
  refine wpAny_getItem_str_slice (l := la) (u := lb) (st := lc) ⟨_, Heap.get?_push_size _ rfl, rfl, rfl⟩ (by rw [hc]; rfl) ?_
  have pk : ((slicePicked z la lb lc).filterMap (z.cps[·]?)) = z.cps.toList.reverse := by
    unfold slicePicked
    rw [ha, hb, hc]
    exact rev_pick z
  have no : ¬ ((lc.map (·.1)).getD 1 == 1 && (slicePicked z la lb lc).length == z.length) = true := by
    rw [hc]
    simp
  unfold sliceMade
  rw [if_neg no, pk]
  refine ⟨?_, .str _, H4, J5.tok _, ⟨_, rfl⟩, q⟩
  show (z.cps.toList.reverse.toArray).size ≤ sizeLine
  rw [List.size_toArray, List.length_reverse, Array.length_toList]
  exact hz
end CT
namespace CT
/-! ### figures -/
/-- the number whose figures, the lowest one first, are these -/
def bw (b : Nat) : List Nat → Nat
  | [] => 0
  | d :: r => d + b * bw b r
/-- the number whose figures, the highest one first, are these -/
def fw (b : Nat) (ds : List Nat) : Nat := ds.foldl (fun a d => a * b + d) 0
theorem fw_rev (b : Nat) (ds : List Nat) : fw b ds = bw b ds.reverse := by
  unfold fw
  rw [List.foldl_eq_foldr_reverse]
  induction ds.reverse with
  | nil => rfl
  | cons d r ih =>
    show List.foldr _ 0 r * b + d = d + b * bw b r
    rw [ih, Nat.mul_comm, Nat.add_comm]
theorem fw_snoc (b : Nat) (l : List Nat) (d : Nat) : fw b (l ++ [d]) = fw b l * b + d := by
  unfold fw
  rw [List.foldl_append]
  rfl
theorem bw_snoc (b : Nat) : ∀ (l : List Nat) (d : Nat), bw b (l ++ [d]) = bw b l + d * b ^ l.length
  | [], d => by
    show d + b * 0 = 0 + d * b ^ 0
    rw [Nat.mul_zero, Nat.pow_zero, Nat.mul_one, Nat.zero_add, Nat.add_zero]
  | e :: r, d => by
    show e + b * bw b (r ++ [d]) = e + b * bw b r + d * b ^ (r.length + 1)
    rw [bw_snoc b r d, Nat.pow_succ, Nat.mul_add, ← Nat.add_assoc]
    congr 1
    rw [Nat.mul_left_comm, Nat.mul_comm b]
theorem bw_lt {b : Nat} : ∀ {ds : List Nat}, (∀ d ∈ ds, d < b) → bw b ds < b ^ ds.length
  | [], _ => by
    show 0 < b ^ 0
    rw [Nat.pow_zero]
    decide
  | d :: r, h => by
    have h1 := h d List.mem_cons_self
    have h2 := bw_lt (ds := r) fun e he => h e (List.mem_cons_of_mem _ he)
    show d + b * bw b r < b ^ (r.length + 1)
    rw [Nat.pow_succ, Nat.mul_comm (b ^ r.length)]
    have h3 : b * (bw b r + 1) ≤ b * b ^ r.length := Nat.mul_le_mul_left b h2
    rw [Nat.mul_add, Nat.mul_one] at h3
    omega
theorem take_snoc {α : Type} {ds : List α} {k : Nat} {d : α} (h : ds[k]? = some d) : ds.take (k + 1) = ds.take k ++ [d] := by
  rw [List.take_add_one, h]
  rfl
theorem fw_step {b k d : Nat} {ds : List Nat} (h : ds[k]? = some d) (h1 : 1 ≤ d) : ((fw b (ds.take (k + 1)) : Nat) : Int) = ((fw b (ds.take k) : Nat) : Int) * (b : Int) + (((d - 1 : Nat) : Int) + 1) := by
  rw [take_snoc h, fw_snoc, Int.natCast_add, Int.natCast_mul]
  omega
theorem bw_step {b k d : Nat} {ds : List Nat} (h : ds[k]? = some d) (h1 : 1 ≤ d) : ((bw b (ds.take (k + 1)) : Nat) : Int) = ((bw b (ds.take k) : Nat) : Int) + (((d - 1 : Nat) : Int) + 1) * ((b ^ k : Nat) : Int) := by
  obtain ⟨hk, _⟩ := List.getElem?_eq_some_iff.mp h
  rw [take_snoc h, bw_snoc, List.length_take, Nat.min_eq_left (Nat.le_of_lt hk), Int.natCast_add, Int.natCast_mul]
  have e : (((d - 1 : Nat) : Int) + 1) = (d : Int) := by omega
  rw [e]
theorem pw_step {b k : Nat} : ((b ^ (k + 1) : Nat) : Int) = ((b ^ k : Nat) : Int) * (b : Int) := by
  rw [Nat.pow_succ, Int.natCast_mul]
/-- the last figure is not zero -/
def LastNz (ds : List Nat) : Prop := ∀ l d, ds = l ++ [d] → d ≠ 0
theorem bw_pos {b : Nat} (hb : 0 < b) {r : List Nat} (h : LastNz r) (hr : r ≠ []) : 0 < bw b r := by
  obtain ⟨l, d, e⟩ : ∃ l d, r = l ++ [d] := ⟨_, _, (List.dropLast_concat_getLast hr).symm⟩
  have hd := h l d e
  rw [e, bw_snoc]
  have : 0 < d * b ^ l.length := Nat.mul_pos (by omega) (Nat.pow_pos hb)
  omega
theorem LastNz.tail {l r : List Nat} (h : LastNz (l ++ r)) : LastNz r := fun k d e => h (l ++ k) d (by rw [e, List.append_assoc])
theorem bw_mod {b d : Nat} {r : List Nat} (h : d < b) : bw b (d :: r) / b = bw b r ∧ bw b (d :: r) % b = d := by
  have e : bw b (d :: r) = d + b * bw b r := rfl
  rw [e, Nat.add_mul_div_left _ _ (by omega), Nat.add_mul_mod_self_left, Nat.div_eq_of_lt h, Nat.mod_eq_of_lt h, Nat.zero_add]
  exact ⟨rfl, rfl⟩
/-- a number's figures, the lowest one first -/
def digs (b : Nat) : Nat → Nat → List Nat
  | 0, _ => []
  | f + 1, n => if n = 0 then [] else n % b :: digs b f (n / b)
theorem digs_bw {b : Nat} (hb : 2 ≤ b) : ∀ {f n : Nat}, n ≤ f → bw b (digs b f n) = n
  | 0, n, h => by
    have : n = 0 := by omega
    subst this
    rfl
  | f + 1, n, h => by
    unfold digs
    split
    · rename_i z
      rw [z]
      rfl
    · have l : n / b ≤ f := by
        have : n / b < n := Nat.div_lt_self (by omega) hb
        omega
      show n % b + b * bw b (digs b f (n / b)) = n
      rw [digs_bw hb l]
      exact Nat.mod_add_div n b
theorem digs_lt {b : Nat} (hb : 2 ≤ b) : ∀ {f n : Nat}, ∀ d ∈ digs b f n, d < b
  | 0, n, d, h => by cases h
  | f + 1, n, d, h => by
    unfold digs at h
    split at h
    · cases h
    · rcases List.mem_cons.mp h with e | h
      · rw [e]
        exact Nat.mod_lt _ (by omega)
      · exact digs_lt hb d h
theorem digs_last {b : Nat} (hb : 2 ≤ b) : ∀ {f n : Nat}, n ≤ f → LastNz (digs b f n)
  | 0, n, _, l, d, e => by
    have := congrArg List.length e
    simp [digs] at this
  | f + 1, n, h, l, d, e => by
    unfold digs at e
    split at e
    · have := congrArg List.length e
      simp at this
    · rename_i hn
      have le : n / b ≤ f := by
        have : n / b < n := Nat.div_lt_self (by omega) hb
        omega
      cases l with
      | nil =>
        have e1 := (List.cons.inj e).1
        have e2 := (List.cons.inj e).2
        have z := digs_bw hb le
        rw [e2] at z
        have z2 : n / b = 0 := z.symm
        have := Nat.mod_add_div n b
        rw [z2, Nat.mul_zero] at this
        omega
      | cons x l => exact digs_last hb le l d (List.cons.inj e).2
theorem digs_len {b : Nat} (hb : 2 ≤ b) : ∀ {f n k : Nat}, n < 2 ^ k → (digs b f n).length ≤ k
  | 0, n, k, _ => Nat.zero_le _
  | f + 1, n, 0, h => by
    have : n = 0 := by
      rw [Nat.pow_zero] at h
      omega
    subst this
    exact Nat.le_refl _
  | f + 1, n, k + 1, h => by
    unfold digs
    split
    · exact Nat.zero_le _
    · have l : n / b < 2 ^ k := by
        rw [Nat.pow_succ] at h
        exact Nat.div_lt_of_lt_mul (Nat.lt_of_lt_of_le h (by rw [Nat.mul_comm]; exact Nat.mul_le_mul_right _ hb))
      exact Nat.succ_le_succ (digs_len hb l)
end CT
namespace CT
open PySem PySem.Spec PySem.Calls PyProof.Rows L2
/-! ### texts by their signs -/
abbrev S (l : List Nat) : Str := SX.S l
theorem S_len (l : List Nat) : (S l).length = l.length := SX.S_len l
theorem rev_S (l : List Nat) : revS (S l) = S l.reverse := rfl
theorem occ_sign {l : List Nat} {j c : Nat} (nd : l.Nodup) (h : l[j]? = some c) : ∃ rest, Builtin.Str.occurrences (S l) ⟨#[c]⟩ 0 (S l).length 1 = j :: rest := by
  have f := StrLaws.found_one (S l) c
  have m : c ∈ (S l).cps.toList := List.mem_of_getElem? h
  rw [decide_eq_true m] at f
  obtain ⟨g, ch⟩ := StrLaws.occ_chain (S l) ⟨#[c]⟩ 1
  cases e : Builtin.Str.occurrences (S l) ⟨#[c]⟩ 0 (S l).length 1 with
  | nil =>
    rw [e] at f
    cases f
  | cons i r =>
    rw [e] at ch
    have at_ := ch.2.1
    have q := (StrLaws.subAt_one (S l) c i).mp ⟨at_.1, at_.2⟩
    have q2 : l[i]? = some c := q
    have hi := (List.getElem?_eq_some_iff.mp q2).1
    have hj := (List.getElem?_eq_some_iff.mp h).1
    have ev : l[i] = l[j] := by rw [(List.getElem?_eq_some_iff.mp q2).2, (List.getElem?_eq_some_iff.mp h).2]
    have ei : i = j := by
      rcases Nat.lt_trichotomy i j with z | z | z
      · exact absurd ev (List.pairwise_iff_getElem.mp nd i j hi hj z)
      · exact z
      · exact absurd ev.symm (List.pairwise_iff_getElem.mp nd j i hj hi z)
    rw [ei]
    exact ⟨r, rfl⟩
theorem joinL_ones : ∀ l : List Nat, TL.joinL [] (l.map fun c => [c]) = l
  | [] => rfl
  | [_] => rfl
  | x :: y :: r => by
    show [x] ++ ([] ++ TL.joinL [] ((y :: r).map fun c => [c])) = _
    rw [joinL_ones (y :: r)]
    rfl
theorem join_ones (l : List Nat) : Txt.join (Str.ofString "") (l.map fun c => S [c]) = S l := by
  have e := SX.join_S [] (l.map fun c => [c])
  rw [joinL_ones, List.map_map] at e
  exact e
theorem sum_ones (l : List Nat) : ((l.map fun c => S [c]).map (·.length)).sum = l.length := by
  induction l with
  | nil => rfl
  | cons x r ih =>
    rw [List.map_cons, List.map_cons, List.sum_cons, ih, List.length_cons]
    show 1 + r.length = r.length + 1
    omega
theorem cut_S {l : List Nat} {a b : Nat} (ha : a ≤ l.length) (hb : b ≤ l.length) : cutS (S l) (some (a : Int)) (some (b : Int)) = S ((l.drop a).take (b - a)) := by
  unfold cutS
  rw [HT.sIx_nat, HT.sIx_nat, S_len, Nat.min_eq_left ha, Nat.min_eq_left hb] <;> rfl
theorem cat_S (a b : List Nat) : S a ++ S b = S (a ++ b) := SX.S_cat a b
/-- the sign of a figure -/
def sg (l : List Nat) (d : Nat) : Nat := l.getD (d - 1) 0
theorem sg_get {l : List Nat} {d : Nat} (h1 : 1 ≤ d) (h2 : d ≤ l.length) : l[d - 1]? = some (sg l d) := by
  unfold sg
  rw [List.getD_eq_getElem?_getD, List.getElem?_eq_getElem (by omega : d - 1 < l.length)]
  rfl
/-- the figures of a text -/
def FigOf (l : List Nat) (ds : List Nat) : Prop := ∀ d ∈ ds, 1 ≤ d ∧ d ≤ l.length
theorem bw_big {b : Nat} {ds : List Nat} (hb : b ≤ 32) (hl : ds.length ≤ 30) (h : ∀ d ∈ ds, d < b) : bw b ds < 2 ^ 150 := by
  refine Nat.lt_of_lt_of_le (bw_lt h) ?_
  rcases Nat.eq_zero_or_pos b with z | z
  · subst z
    cases ds with
    | nil => decide
    | cons d r => exact absurd (h d List.mem_cons_self) (by omega)
  · refine Nat.le_trans (Nat.pow_le_pow_left hb _) (Nat.le_trans (Nat.pow_le_pow_right (by decide) hl) (by decide))
theorem pow_big {b k : Nat} (hb : b ≤ 32) (h0 : 0 < b) (hk : k ≤ 30) : b ^ k < 2 ^ 151 :=
  Nat.lt_of_le_of_lt (Nat.le_trans (Nat.pow_le_pow_left hb _) (Nat.le_trans (Nat.pow_le_pow_right (by decide) hk) (Nat.le_refl _))) (by decide)
end CT
namespace CT
open PySem PySem.Spec PySem.Calls PyProof.Rows L2
theorem big_nat {n k : Nat} (h : n < 2 ^ k) (hk : k ≤ 4000) : Big ((n : Nat) : Int) := big_small (n := k) (by rw [Int.natAbs_natCast]; exact h) hk
theorem fw_big {b : Nat} {ds : List Nat} (hb : b ≤ 32) (hl : ds.length ≤ 30) (h : ∀ d ∈ ds, d < b) : fw b ds < 2 ^ 150 := by
  rw [fw_rev]
  exact bw_big hb (by rw [List.length_reverse]; exact hl) fun d hd => h d (List.mem_reverse.mp hd)
end CT
namespace CT
theorem bw_suffix {b d : Nat} {r : List Nat} (hb : 1 ≤ b) : bw b r ≤ bw b (d :: r) := by
  show bw b r ≤ d + b * bw b r
  have := Nat.le_mul_of_pos_left (bw b r) hb
  omega
theorem bw_app {b : Nat} {r : List Nat} (hb : 1 ≤ b) : ∀ {l : List Nat}, bw b r ≤ bw b (l ++ r)
  | [] => Nat.le_refl _
  | _ :: l => Nat.le_trans (bw_app hb (l := l)) (bw_suffix hb)
end CT
namespace CT
theorem nodup_rev {l : List Nat} (h : l.Nodup) : l.reverse.Nodup := List.pairwise_reverse.mpr (List.Pairwise.imp (fun h => Ne.symm h) h)
end CT
namespace CT
open PySem PySem.Spec PySem.Calls PyProof.Rows L2
theorem flat_digs (es : List Nat) : (es.map fun d => V.int ((d : Nat) : Int)).all flatV = true := by
  rw [List.all_eq_true]
  intro x hx
  obtain ⟨d, _, rfl⟩ := List.mem_map.mp hx
  rfl
theorem in_digs (es : List Nat) : inV (.int 0) (es.map fun d => V.int ((d : Nat) : Int)) = decide (0 ∈ es) := by
  unfold inV
  rw [List.any_map, Bool.eq_iff_iff, List.any_eq_true, decide_eq_true_eq]
  constructor
  · rintro ⟨d, hd, e⟩
    have e2 : ((d : Nat) : Int) = 0 := eq_of_beq (show (((d : Nat) : Int) == 0) = true from e)
    have : d = 0 := by omega
    rw [← this]
    exact hd
  · intro h
    exact ⟨0, h, rfl⟩
end CT

/-! Texts of numbers and fractions, plain laws. -/
namespace CT
open PySem PySem.Spec PySem.Calls PyProof.Rows L2
def isDig (c : Nat) : Bool := decide (c ∈ ([48, 49, 50, 51, 52, 53, 54, 55, 56, 57] : List Nat))
/-- figures of a number as they are written: no zero in front, at most thirty -/
def isNum (l : List Nat) : Bool := decide (1 ≤ l.length ∧ l.length ≤ 30) && (l.all isDig && (decide (l = [48]) || !decide (l.head? = some 48)))
def spIsNum : Sp := fun vs H Q _ => ∃ l : List Nat, vs = [.str (S l)] ∧ l.length ≤ 1000 ∧ ∀ H', Same H H' → Q (.bl (isNum l)) H'
theorem relS {mg : Str → Option Value} {x z : Str} (h : ∃ t, mg x = some (.str z t)) : ∃ u, mg x = some u ∧ RelV (.str z) u := by
  obtain ⟨t, e⟩ := h
  exact ⟨_, e, t, rfl⟩
theorem relI {mg : Str → Option Value} {x : Str} {i : Int} (h : ∃ t, mg x = some (.int i t)) : ∃ u, mg x = some u ∧ RelV (.int i) u := by
  obtain ⟨t, e⟩ := h
  exact ⟨_, e, t, rfl⟩
end CT
namespace CT
open PySem PySem.Spec PySem.Calls PyProof.Rows L2
theorem isNum_long {l : List Nat} (h : ¬ (1 ≤ l.length ∧ l.length ≤ 30)) : isNum l = false := by
  unfold isNum
  rw [decide_eq_false h]
  rfl
theorem isNum_sign {l : List Nat} (h : l.all isDig = false) : isNum l = false := by
  unfold isNum
  rw [h]
  simp
theorem isNum_rest {l : List Nat} (h : 1 ≤ l.length ∧ l.length ≤ 30) (h2 : l.all isDig = true) : isNum l = (decide (l = [48]) || !decide (l.head? = some 48)) := by
  unfold isNum
  rw [decide_eq_true h, h2]
  rfl
theorem isNum_zero {l : List Nat} (h : 1 ≤ l.length ∧ l.length ≤ 30) (h2 : l.all isDig = true) (e : l = [48]) : isNum l = true := by
  rw [isNum_rest h h2, decide_eq_true e]
  rfl
theorem isNum_head {c : Nat} {r : List Nat} (h : 1 ≤ (c :: r).length ∧ (c :: r).length ≤ 30) (h2 : (c :: r).all isDig = true) (e : ¬ c :: r = [48]) : isNum (c :: r) = !decide (c = 48) := by
  rw [isNum_rest h h2, decide_eq_false e]
  simp
theorem str_dec (a b : List Nat) : decide (V.str (S a) = V.str (S b)) = decide (a = b) := by
  rw [decide_eq_decide]
  exact ⟨fun z => SX.S_inj (V.str.inj z), fun z => by rw [z]⟩
end CT
namespace CT
open PySem PySem.Spec PySem.Calls PyProof.Rows L2
def valN (l : List Nat) : Nat := NumText.digitsVal l
def bodyOf (l : List Nat) : List Nat := if l.head? = some 45 then l.drop 1 else l
/-- the fraction at hand, if it is one in lowest terms; st: a stroke is written; ng: a sign is written -/
def fitF (st ng : Bool) (t u : Nat) : Option (Int × Int) :=
  if 0 < u ∧ Int.gcd (t : Int) (u : Int) = 1 ∧ ¬ (st = true ∧ u = 1) ∧ ¬ (ng = true ∧ t = 0) then some (if ng then 0 - (t : Int) else (t : Int), (u : Int)) else none
/-- the fraction that a text tells -/
def readF (l : List Nat) : Option (Int × Int) := match TL.par [47] [] (bodyOf l) with
  | some (p, q) => if isNum p = true ∧ isNum q = true then fitF true (decide (bodyOf l ≠ l)) (valN p) (valN q) else none
  | none => if isNum (bodyOf l) = true then fitF false (decide (bodyOf l ≠ l)) (valN (bodyOf l)) 1 else none
theorem isNum_len {l : List Nat} (h : isNum l = true) : 1 ≤ l.length ∧ l.length ≤ 30 := by
  unfold isNum at h
  exact of_decide_eq_true (Bool.and_eq_true_iff.mp h).1
theorem isNum_dig {l : List Nat} (h : isNum l = true) : l.all isDig = true := by
  unfold isNum at h
  exact (Bool.and_eq_true_iff.mp (Bool.and_eq_true_iff.mp h).2).1
theorem isDig_le {c : Nat} (h : isDig c = true) : 48 ≤ c ∧ c ≤ 57 := by
  have := of_decide_eq_true h
  simp at this
  omega
theorem int_of {l : List Nat} (h : isNum l = true) : intText? (S l) = some ((valN l : Nat) : Int) ∧ (S l).length ≤ 640 := by
  have hl := isNum_len h
  refine ⟨SX.int_S ?_ ?_ (by omega), by rw [S_len]; omega⟩
  · rw [List.all_eq_true]
    intro c hc
    have := isDig_le (List.all_eq_true.mp (isNum_dig h) c hc)
    rw [Bool.and_eq_true, decide_eq_true_eq, decide_eq_true_eq]
    exact this
  · intro e
    rw [e] at hl
    exact absurd hl.1 (by decide)
theorem fold_lt : ∀ (l : List Nat) (a : Nat), (∀ c ∈ l, 48 ≤ c ∧ c ≤ 57) → l.foldl (fun acc c => acc * 10 + (c - 48)) a < (a + 1) * 10 ^ l.length
  | [], a, _ => by
    show a < (a + 1) * 10 ^ 0
    rw [Nat.pow_zero]
    omega
  | c :: r, a, h => by
    have h1 := h c List.mem_cons_self
    have h2 := fold_lt r (a * 10 + (c - 48)) fun e he => h e (List.mem_cons_of_mem _ he)
    show r.foldl _ (a * 10 + (c - 48)) < (a + 1) * 10 ^ (r.length + 1)
    have h3 : (a * 10 + (c - 48) + 1) * 10 ^ r.length ≤ ((a + 1) * 10) * 10 ^ r.length := Nat.mul_le_mul_right _ (by omega)
    have h4 : ((a + 1) * 10) * 10 ^ r.length = (a + 1) * 10 ^ (r.length + 1) := by rw [Nat.pow_succ, Nat.mul_assoc, Nat.mul_comm 10]
    rw [← h4]
    exact Nat.lt_of_lt_of_le h2 h3
theorem val_big {l : List Nat} (h : isNum l = true) : valN l < 2 ^ 120 := by
  have hl := isNum_len h
  have e := fold_lt l 0 fun c hc => isDig_le (List.all_eq_true.mp (isNum_dig h) c hc)
  rw [Nat.zero_add, Nat.one_mul] at e
  refine Nat.lt_of_lt_of_le e (Nat.le_trans (Nat.pow_le_pow_right (by decide) hl.2) (by decide))
theorem removeprefix_S (l : List Nat) : Txt.removeprefix (S l) (S [45]) = S (bodyOf l) := by
  rw [StrLaws.removeprefix_eq]
  have key := StrLaws.subAt_one (S l) 45 0
  have e0 : (S l).cps.toList[0]? = l.head? := by
    cases l <;> rfl
  rw [e0] at key
  unfold bodyOf
  by_cases h : l.head? = some 45
  · obtain ⟨k1, k2⟩ := key.mpr h
    rw [if_pos h, if_pos (Bool.and_eq_true_iff.mpr ⟨decide_eq_true k1, k2⟩)]
    show (⟨((l.drop 1).take (l.length - 1)).toArray⟩ : Str) = ⟨(l.drop 1).toArray⟩
    rw [List.take_of_length_le (by rw [List.length_drop]; exact Nat.le_refl _)]
  · rw [if_neg h, if_neg fun z => h (key.mp ⟨of_decide_eq_true (Bool.and_eq_true_iff.mp z).1, (Bool.and_eq_true_iff.mp z).2⟩)]
end CT
namespace CT
open PySem PySem.Spec PySem.Calls PyProof.Rows L2
theorem pre1 (c : Nat) (r : List Nat) : TL.pre [47] (c :: r) = decide (c = 47) := by
  first
    | (unfold TL.pre; by_cases h : c = 47 <;> simp [h])
    | (simp [TL.pre])
theorem par_len1 : ∀ (l acc p q : List Nat), TL.par [47] acc l = some (p, q) → p.length + q.length + 1 = acc.length + l.length
  | [], acc, p, q, h => by
    simp [TL.par] at h
  | c :: r, acc, p, q, h => by
    by_cases hc : c = 47
    · rw [TL.par_hit (by rw [pre1, decide_eq_true hc])] at h
      cases h
      show acc.length + (List.drop 1 (c :: r)).length + 1 = acc.length + (r.length + 1)
      rw [List.drop_one, List.tail_cons]
      omega
    · rw [TL.par_miss (by rw [pre1, decide_eq_false hc])] at h
      have e := par_len1 r (acc ++ [c]) p q h
      rw [List.length_append] at e
      show p.length + q.length + 1 = acc.length + (r.length + 1)
      simp at e
      omega
end CT
namespace CT
open PySem PySem.Spec PySem.Calls PyProof.Rows L2
/-- a text's parts: is there a stroke, what stands before it, behind it -/
def partsOf (l : List Nat) : Bool × List Nat × List Nat := match TL.par [47] [] (bodyOf l) with
  | some (p, q) => (true, p, q)
  | none => (false, bodyOf l, [])
def readP (l : List Nat) (st : Bool) (p q : List Nat) : Option (Int × Int) :=
  if isNum p = true ∧ (st = true → isNum q = true) then fitF st (decide (bodyOf l ≠ l)) (valN p) (if st = true then valN q else 1) else none
theorem read_parts (l : List Nat) : readF l = readP l (partsOf l).1 (partsOf l).2.1 (partsOf l).2.2 := by
  unfold readF partsOf readP
  cases TL.par [47] [] (bodyOf l) with
  | none => simp
  | some z =>
    obtain ⟨p, q⟩ := z
    simp
theorem part_S (l : List Nat) : Txt.partition (S (bodyOf l)) (S [47]) = (S (partsOf l).2.1, S (if (partsOf l).1 = true then [47] else []), S (partsOf l).2.2) := by
  unfold partsOf
  cases h : TL.par [47] [] (bodyOf l) with
  | none => exact SX.partition_none (by decide) h
  | some z =>
    obtain ⟨p, q⟩ := z
    exact SX.partition_some (by decide) h
theorem body_len (l : List Nat) : (bodyOf l).length ≤ l.length := by
  unfold bodyOf
  split
  · rw [List.length_drop]
    omega
  · exact Nat.le_refl _
theorem parts_len (l : List Nat) : (partsOf l).2.1.length ≤ l.length ∧ (partsOf l).2.2.length ≤ l.length := by
  have hb := body_len l
  unfold partsOf
  cases h : TL.par [47] [] (bodyOf l) with
  | none => exact ⟨hb, Nat.zero_le _⟩
  | some z =>
    obtain ⟨p, q⟩ := z
    have e := par_len1 _ _ _ _ h
    simp at e
    exact ⟨by show p.length ≤ _; omega, by show q.length ≤ _; omega⟩
end CT
namespace CT
open PySem PySem.Spec PySem.Calls PyProof.Rows L2
theorem stroke_dec (st : Bool) : decide (V.str (S (if st = true then [47] else [])) = V.str (S [47])) = st := by
  rw [str_dec]
  cases st with
  | true => rfl
  | false => rfl
end CT
namespace CT
open PySem PySem.Spec PySem.Calls PyProof.Rows L2
theorem fold_ge : ∀ (l : List Nat) (a : Nat), a * 10 ^ l.length ≤ l.foldl (fun acc c => acc * 10 + (c - 48)) a
  | [], a => by
    show a * 10 ^ 0 ≤ a
    rw [Nat.pow_zero]
    omega
  | c :: r, a => by
    have h2 := fold_ge r (a * 10 + (c - 48))
    show a * 10 ^ (r.length + 1) ≤ r.foldl _ (a * 10 + (c - 48))
    refine Nat.le_trans ?_ h2
    rw [Nat.pow_succ, Nat.mul_comm (10 ^ r.length), ← Nat.mul_assoc]
    exact Nat.mul_le_mul_right _ (by omega)
theorem val_two {l : List Nat} (h : isNum l = true) (h0 : ¬ l = [48]) (h1 : ¬ l = [49]) : 2 ≤ valN l := by
  have hl := isNum_len h
  have hd := isNum_dig h
  cases l with
  | nil => exact absurd hl.1 (by decide)
  | cons c r =>
    have hc := isDig_le (List.all_eq_true.mp hd c List.mem_cons_self)
    have h48 : ¬ c = 48 := by
      have e := isNum_head hl hd h0
      rw [h] at e
      intro z
      rw [decide_eq_true z] at e
      cases e
    have g := fold_ge r (0 * 10 + (c - 48))
    have e : valN (c :: r) = r.foldl (fun acc c => acc * 10 + (c - 48)) (0 * 10 + (c - 48)) := rfl
    rw [e]
    refine Nat.le_trans ?_ g
    cases r with
    | nil =>
      have : ¬ c = 49 := fun z => h1 (by rw [z])
      show 2 ≤ (0 * 10 + (c - 48)) * 10 ^ 0
      rw [Nat.pow_zero]
      omega
    | cons d r =>
      have : 10 ^ 1 ≤ 10 ^ (d :: r).length := Nat.pow_le_pow_right (by decide) (by simp)
      have := Nat.mul_le_mul (show 1 ≤ 0 * 10 + (c - 48) by omega) this
      omega
theorem cut_head (l : List Nat) : cutS (S l) none (some 1) = S (l.take 1) := by
  unfold cutS
  rw [HT.sIx_none, show HT.sIx (S l).length (S l).length (some 1) = min 1 (S l).length from HT.sIx_nat _ _ 1, S_len]
  show (⟨((l.drop 0).take (min 1 l.length - 0)).toArray⟩ : Str) = ⟨(l.take 1).toArray⟩
  rw [List.drop_zero, Nat.sub_zero]
  cases l with
  | nil => rfl
  | cons c r =>
    rw [Nat.min_eq_left (by simp)]
theorem cut_tail (l : List Nat) : cutS (S l) (some 1) none = S (l.drop 1) := by
  unfold cutS
  rw [HT.sIx_none, show HT.sIx (S l).length 0 (some 1) = min 1 (S l).length from HT.sIx_nat _ _ 1, S_len]
  show (⟨((l.drop (min 1 l.length)).take (l.length - min 1 l.length)).toArray⟩ : Str) = ⟨(l.drop 1).toArray⟩
  cases l with
  | nil => rfl
  | cons c r =>
    rw [Nat.min_eq_left (by simp), List.take_of_length_le (by rw [List.length_drop]; exact Nat.le_refl _)]
theorem minus_dec (l : List Nat) : decide (V.str (S (l.take 1)) = V.str (S [45])) = decide (l.head? = some 45) := by
  rw [str_dec, decide_eq_decide]
  cases l with
  | nil => simp
  | cons c r => simp
theorem ne_pair {K : PySem.W.Frag} {H : Hp} {a b : Addr} {x y z w : Int} {Q : VK} (ha : SqT K H a [.int x, .int y]) (hb : SqT K H b [.int z, .int w]) (q : Q (.bl (!decide (x = z ∧ y = w))) H) : rNeD K (.ref a) (.ref b) H Q := by
  have sh : ∀ i j : Int, SeqAt.shaped (.tuple [.int i, .int j]) = true := fun i j => by
    simp [SeqAt.shaped, PyData.canLay0, PyData.canLayAll0, PyData.depth, PyData.depthAll]
  refine ⟨_, _, .tup ha (.cons (.int _) (.cons (.int _) .nil)), .tup hb (.cons (.int _) (.cons (.int _) .nil)), sh _ _, sh _ _, ?_⟩
  have e : PyData.eqv (.tuple [.int x, .int y]) (.tuple [.int z, .int w]) = decide (x = z ∧ y = w) := by
    simp [PyData.eqv, PyData.eqvAll, Bool.decide_and]
    try rfl
  rw [e]
  exact q
theorem frac_same {t u : Int} (hu : 0 < u) : (fracT t u = t ∧ fracU t u = u) ↔ Int.gcd t u = 1 := by
  constructor
  · rintro ⟨h1, h2⟩
    have := frac_gcd (t := t) (u := u) (by omega)
    rw [h1, h2] at this
    exact this
  · intro h
    unfold fracT fracU den
    rw [if_neg (by omega), h]
    exact ⟨Int.fdiv_one t, Int.fdiv_one u⟩
end CT
namespace CT
open PySem PySem.Spec PySem.Calls PyProof.Rows L2
theorem in_two (q : List Nat) : inV (.str (S q)) [.str (S [48]), .str (S [49])] = decide (q = [48] ∨ q = [49]) := by
  show ((S [48] == S q) || ((S [49] == S q) || false)) = _
  rw [SX.S_beq, SX.S_beq, Bool.or_false, Bool.eq_iff_iff, Bool.or_eq_true, beq_iff_eq, beq_iff_eq, decide_eq_true_eq]
  exact ⟨fun z => z.elim (fun e => .inl e.symm) fun e => .inr e.symm, fun z => z.elim (fun e => .inl e.symm) fun e => .inr e.symm⟩
end CT
namespace CT
open PySem PySem.Spec PySem.Calls PyProof.Rows L2
/-- a whole number's text -/
def decL (z : Int) : List Nat := if z < 0 then 45 :: TL.numL z.natAbs else TL.numL z.natAbs
/-- a fraction's text -/
def textF (t u : Int) : List Nat := decL t ++ (if u = 1 then [] else 47 :: decL u)
theorem dec_S (z : Int) : Str.ofString (toString z) = S (decL z) := by
  unfold decL
  by_cases h : z < 0
  · rw [if_pos h, toString_neg h]
    have e : (0 : Int) - z = ((z.natAbs : Nat) : Int) := by omega
    rw [e]
    have e2 : Str.ofString ("-" ++ toString ((z.natAbs : Nat) : Int)) = Str.ofString "-" ++ Str.ofString (toString ((z.natAbs : Nat) : Int)) := by
      refine TL.ext_tl ?_
      rw [TL.tl_append]
      show (Str.ofString _).cps.toList = (Str.ofString _).cps.toList ++ (Str.ofString _).cps.toList
      rw [PyProof.Rows.signs_ofString, PyProof.Rows.signs_ofString, PyProof.Rows.signs_ofString, String.toList_append, List.map_append]
    rw [e2, SX.num_S]
    exact SX.S_cat [45] _
  · rw [if_neg h]
    have e : z = ((z.natAbs : Nat) : Int) := by omega
    conv => lhs; rw [e]
    exact SX.num_S _
theorem numL_head : ∀ n : Nat, 0 < n → (TL.numL n).head? ≠ some 48 := by
  intro n
  induction n using Nat.strongRecOn with
  | _ n ih =>
    intro hn
    by_cases h : n < 10
    · rw [TL.numL_lt h]
      intro e
      have := Option.some.inj e
      omega
    · rw [TL.numL_step (by omega)]
      have q := ih (n / 10) (Nat.div_lt_self hn (by decide)) (Nat.div_pos (by omega) (by decide))
      cases e : TL.numL (n / 10) with
      | nil => exact absurd e (TL.numL_ne _)
      | cons c r =>
        rw [e] at q
        exact q
theorem isNum_numL {n : Nat} (h : n < 10 ^ 30) : isNum (TL.numL n) = true := by
  have l1 := TL.numL_len (k := 30) (by decide) h
  have l0 : 1 ≤ (TL.numL n).length := by
    cases e : TL.numL n with
    | nil => exact absurd e (TL.numL_ne _)
    | cons c r => simp
  have hd : (TL.numL n).all isDig = true := by
    rw [List.all_eq_true]
    intro c hc
    have := TL.numL_digits n c hc
    refine decide_eq_true ?_
    simp
    omega
  rw [isNum_rest ⟨l0, l1⟩ hd]
  rcases Nat.eq_zero_or_pos n with z | z
  · subst z
    rw [TL.numL_lt (by decide)]
    rfl
  · rw [decide_eq_false (numL_head n z)]
    simp
end CT
namespace CT
open PySem PySem.Spec PySem.Calls PyProof.Rows L2
theorem body_text (t u : Int) : bodyOf (textF t u) = TL.numL t.natAbs ++ (if u = 1 then [] else 47 :: decL u) ∧ (bodyOf (textF t u) ≠ textF t u ↔ t < 0) := by
  unfold textF decL
  by_cases h : t < 0
  · rw [if_pos h]
    have e : bodyOf (45 :: TL.numL t.natAbs ++ (if u = 1 then [] else 47 :: (if u < 0 then 45 :: TL.numL u.natAbs else TL.numL u.natAbs))) = TL.numL t.natAbs ++ (if u = 1 then [] else 47 :: (if u < 0 then 45 :: TL.numL u.natAbs else TL.numL u.natAbs)) := rfl
    rw [e]
    refine ⟨rfl, fun _ => h, fun _ z => ?_⟩
    have := congrArg List.length z
    rw [List.cons_append, List.length_cons] at this
    omega
  · rw [if_neg h]
    obtain ⟨c, r, e⟩ : ∃ c r, TL.numL t.natAbs = c :: r := by
      cases e : TL.numL t.natAbs with
      | nil => exact absurd e (TL.numL_ne _)
      | cons c r => exact ⟨c, r, rfl⟩
    have hc := TL.numL_digits t.natAbs c (by rw [e]; exact List.mem_cons_self)
    have e2 : ∀ x : List Nat, bodyOf (c :: r ++ x) = c :: r ++ x := fun x => by
      unfold bodyOf
      rw [if_neg]
      intro z
      have := Option.some.inj z
      omega
    rw [e, e2]
    exact ⟨rfl, fun z => absurd rfl z, fun z => absurd z h⟩
theorem read_text {t u : Int} (hu : 0 < u) (hg : Int.gcd t u = 1) (ht : t.natAbs < 10 ^ 30) (hu2 : u.natAbs < 10 ^ 30) : readF (textF t u) = some (t, u) := by
  obtain ⟨e1, e2⟩ := body_text t u
  have hd : decide (bodyOf (textF t u) ≠ textF t u) = decide (t < 0) := decide_eq_decide.mpr e2
  have hg2 : Int.gcd ((t.natAbs : Nat) : Int) ((u.natAbs : Nat) : Int) = 1 := hg
  have fin : ∀ st : Bool, (st = true → u ≠ 1) → fitF st (decide (t < 0)) t.natAbs u.natAbs = some (t, u) := fun st hst => by
    unfold fitF
    rw [if_pos ⟨by omega, hg2, fun z => hst z.1 (by omega), fun z => by
      have := of_decide_eq_true z.1
      omega⟩]
    have e3 : ((u.natAbs : Nat) : Int) = u := by omega
    rw [e3]
    by_cases h : t < 0
    · rw [decide_eq_true h]
      show some (0 - ((t.natAbs : Nat) : Int), u) = some (t, u)
      rw [show 0 - ((t.natAbs : Nat) : Int) = t by omega]
    · rw [decide_eq_false h]
      show some (((t.natAbs : Nat) : Int), u) = some (t, u)
      rw [show ((t.natAbs : Nat) : Int) = t by omega]
  unfold readF
  rw [hd, e1]
  by_cases h1 : u = 1
  · rw [if_pos h1, List.append_nil, TL.par_none1 (TL.numL_free (by omega))]
    show (if isNum (TL.numL t.natAbs) = true then fitF false (decide (t < 0)) (valN (TL.numL t.natAbs)) 1 else none) = _
    rw [if_pos (isNum_numL ht)]
    have ev : valN (TL.numL t.natAbs) = t.natAbs := TL.numL_val _
    rw [ev]
    have := fin false (fun z => by cases z)
    rw [h1] at this ⊢
    exact this
  · have hdu : decL u = TL.numL u.natAbs := by
      unfold decL
      rw [if_neg (by omega)]
    rw [if_neg h1, hdu]
    have ep : TL.par [47] [] (TL.numL t.natAbs ++ 47 :: TL.numL u.natAbs) = some (TL.numL t.natAbs, TL.numL u.natAbs) := TL.par_part1 (S := []) (acc := []) (TL.numL_free (by omega))
    rw [ep]
    show (if isNum (TL.numL t.natAbs) = true ∧ isNum (TL.numL u.natAbs) = true then fitF true (decide (t < 0)) (valN (TL.numL t.natAbs)) (valN (TL.numL u.natAbs)) else none) = _
    rw [if_pos ⟨isNum_numL ht, isNum_numL hu2⟩]
    have ev : valN (TL.numL t.natAbs) = t.natAbs := TL.numL_val _
    have ev2 : valN (TL.numL u.natAbs) = u.natAbs := TL.numL_val _
    rw [ev, ev2]
    exact fin true fun _ => h1
end CT
namespace CT
open PySem PySem.Spec PySem.Calls PyProof.Rows L2
theorem dec_len {z : Int} (h : z.natAbs < 10 ^ 30) : (decL z).length ≤ 31 := by
  have l := TL.numL_len (k := 30) (by decide) h
  unfold decL
  split
  · rw [List.length_cons]
    omega
  · omega
theorem dec_log {z : Int} (h : z.natAbs < 10 ^ 30) : z.natAbs.log2 < 1920 := Nat.lt_of_lt_of_le (PySem.Flt.log2_lt_of (k := 100) (by decide) (Nat.lt_of_lt_of_le h (by decide))) (by decide)
theorem text_one (t : Int) : S (textF t 1) = Str.ofString (toString t) := by
  rw [dec_S]
  unfold textF
  rw [if_pos rfl, List.append_nil]
theorem text_two {t u : Int} (h : u ≠ 1) : S (textF t u) = Str.ofString (toString t) ++ S [47] ++ Str.ofString (toString u) := by
  rw [dec_S, dec_S, cat_S, cat_S]
  unfold textF
  rw [if_neg h, List.append_assoc]
  rfl
end CT
namespace CT
open PySem PySem.Spec PySem.Calls PyProof.Rows L2
theorem emp_cat (x : Str) : Str.empty ++ x = x := by
  refine TL.ext_tl ?_
  rw [TL.tl_append]
  rfl
end CT

/-! Slices of texts from a place, up to a place. -/
namespace CT
open PySem PySem.Spec PySem.Calls PyProof.Rows L2
theorem cut_to (l : List Nat) (b : Nat) : cutS (S l) none (some (b : Int)) = S (l.take b) := by
  unfold cutS
  rw [HT.sIx_none, HT.sIx_nat, S_len]
  show (⟨((l.drop 0).take (min b l.length - 0)).toArray⟩ : Str) = ⟨(l.take b).toArray⟩
  rw [List.drop_zero, Nat.sub_zero]
  by_cases h : b ≤ l.length
  · rw [Nat.min_eq_left h]
  · rw [Nat.min_eq_right (by omega), List.take_of_length_le (Nat.le_refl _), List.take_of_length_le (by omega)]
theorem cut_from (l : List Nat) (a : Nat) : cutS (S l) (some (a : Int)) none = S (l.drop a) := by
  unfold cutS
  rw [HT.sIx_none, HT.sIx_nat, S_len]
  show (⟨((l.drop (min a l.length)).take (l.length - min a l.length)).toArray⟩ : Str) = ⟨(l.drop a).toArray⟩
  by_cases h : a ≤ l.length
  · rw [Nat.min_eq_left h, List.take_of_length_le (by rw [List.length_drop]; exact Nat.le_refl _)]
  · rw [Nat.min_eq_right (by omega), List.drop_of_length_le (show l.length ≤ a by omega), List.drop_of_length_le (Nat.le_refl _), List.take_nil]
section
variable {X : Cx}
/-- a text, some times -/
theorem op_repS : OpR X (binaryOp .Mult) (fun x y H Q => ∃ z n, x = .str z ∧ y = .int n ∧ MulOk z n ∧ Q (.str (Txt.mul z n)) H) := by
  intro pins s σ H x y v u Q I rx ry h
  obtain ⟨z, n, rfl, rfl, hz, q⟩ := h
  obtain ⟨t, rfl⟩ := rx
  obtain ⟨t', rfl⟩ := ry
  exact PySem.SB.mul hz (fun t' tk => ⟨.str (Txt.mul z n), H, I.tok _, ⟨_, rfl⟩, q⟩)
end
theorem mulOk_small {x : Str} {n : Int} (h1 : x.length ≤ 1000) (h2 : 0 ≤ n) (h3 : n ≤ 1000) : MulOk x n := mulOk_of 1000 1000 h1 h3 (by omega) (by decide) (by decide)
end CT

/-! Lists of what is told, compared. -/
namespace CT
open PySem PySem.Spec PySem.Calls PyProof.Rows L2 He
def toldD (t : Str × V) : PyData := .tuple [.str t.1, toData t.2]
def okT (t : Str × V) : Bool := okData (.str t.1) && okData t.2
theorem okT_of {x : Str} {v : V} (h1 : okData (.str x) = true) (h2 : okData v = true) : okT (x, v) = true := by
  unfold okT
  rw [h1, h2]
  rfl
/-- the tuples at these addresses tell so -/
def ToldL (K : PySem.W.Frag) (H : Hp) : List Addr → List (Str × V) → Prop
  | [], [] => True
  | a :: as, t :: ts => SqT K H a [.str t.1, t.2] ∧ okT t = true ∧ ToldL K H as ts
  | _, _ => False
theorem ToldL.len {K : PySem.W.Frag} {H : Hp} : ∀ {as : List Addr} {ts : List (Str × V)}, ToldL K H as ts → as.length = ts.length
  | [], [], _ => rfl
  | _ :: _, _ :: _, h => congrArg Nat.succ (ToldL.len h.2.2)
theorem ToldL.same {K : PySem.W.Frag} {H H' : Hp} (e : Same H H') : ∀ {as : List Addr} {ts : List (Str × V)}, ToldL K H as ts → ToldL K H' as ts
  | [], [], _ => trivial
  | _ :: _, _ :: _, h => ⟨sqT_same e h.1, h.2.1, ToldL.same e h.2.2⟩
theorem ToldL.but {K : PySem.W.Frag} {H H' : Hp} (e : ∀ b xs, SqT K H b xs → SqT K H' b xs) : ∀ {as : List Addr} {ts : List (Str × V)}, ToldL K H as ts → ToldL K H' as ts
  | [], [], _ => trivial
  | _ :: _, _ :: _, h => ⟨e _ _ h.1, h.2.1, ToldL.but e h.2.2⟩
theorem ToldL.app {K : PySem.W.Frag} {H : Hp} : ∀ {as bs : List Addr} {ts us : List (Str × V)}, ToldL K H as ts → ToldL K H bs us → ToldL K H (as ++ bs) (ts ++ us)
  | [], _, [], _, _, h => h
  | _ :: _, _, _ :: _, _, h, h2 => ⟨h.1, h.2.1, ToldL.app h.2.2 h2⟩
theorem ToldL.rep {K : PySem.W.Frag} {H : Hp} {a : Addr} {t : Str × V} (h : SqT K H a [.str t.1, t.2]) (ht : okT t = true) : ∀ n, ToldL K H (List.replicate n a) (List.replicate n t)
  | 0 => trivial
  | n + 1 => ⟨h, ht, ToldL.rep h ht n⟩
theorem ToldL.dp {K : PySem.W.Frag} {H : Hp} : ∀ {as : List Addr} {ts : List (Str × V)}, ToldL K H as ts → DpAll K H (as.map V.ref) (ts.map toldD)
  | [], [], _ => .nil
  | _ :: _, t :: _, h => .cons (.tup h.1 (.cons (.str _) (.cons (dp_flat (Bool.and_eq_true_iff.mp h.2.1).2) .nil))) (ToldL.dp h.2.2)
theorem ToldL.ok {K : PySem.W.Frag} {H : Hp} : ∀ {as : List Addr} {ts : List (Str × V)}, ToldL K H as ts → ∀ t ∈ ts, okT t = true
  | [], [], _, _, ht => by cases ht
  | _ :: _, t :: _, h, u, hu => by
    rcases List.mem_cons.mp hu with e | e
    · rw [e]
      exact h.2.1
    · exact ToldL.ok h.2.2 u e
theorem told_lay : ∀ {ts : List (Str × V)}, (∀ t ∈ ts, okT t = true) → PyData.canLayAll0 (ts.map toldD) = true ∧ PyData.depthAll (ts.map toldD) ≤ 1 ∧ PyData.eqvAll (ts.map toldD) (ts.map toldD) = true
  | [], _ => by simp [PyData.canLayAll0, PyData.depthAll, PyData.eqvAll]
  | t :: ts, h => by
    obtain ⟨h1, h2, h3⟩ := told_lay (ts := ts) fun u hu => h u (List.mem_cons_of_mem _ hu)
    have ht := h t List.mem_cons_self
    obtain ⟨x1, x2, x3⟩ := lay_flat (Bool.and_eq_true_iff.mp ht).1
    obtain ⟨v1, v2, v3⟩ := lay_flat (Bool.and_eq_true_iff.mp ht).2
    simp only [toData] at x1 x2 x3
    refine ⟨?_, ?_, ?_⟩
    · simp [toldD, PyData.canLayAll0, PyData.canLay0] at x1 h1 ⊢
      exact ⟨⟨x1, v1⟩, h1⟩
    · simp [toldD, PyData.depthAll, PyData.depth, v2] at h2 ⊢
      omega
    · simp [toldD, PyData.eqvAll, PyData.eqv, v3] at h3 ⊢
      exact h3
theorem told_shaped {ts : List (Str × V)} (h : ∀ t ∈ ts, okT t = true) : SeqAt.shaped (.list (ts.map toldD)) = true := by
  obtain ⟨h1, h2, _⟩ := told_lay h
  unfold SeqAt.shaped
  rw [Bool.and_eq_true, decide_eq_true_eq]
  refine ⟨?_, ?_⟩
  · simpa [PyData.canLay0] using h1
  · have e : PyData.depth (.list (ts.map toldD)) = PyData.depthAll (ts.map toldD) + 1 := by simp [PyData.depth]
    omega
theorem told_eqv {ts : List (Str × V)} (h : ∀ t ∈ ts, okT t = true) : PyData.eqv (.list (ts.map toldD)) (.list (ts.map toldD)) = true := by
  simpa [PyData.eqv] using (told_lay h).2.2
theorem eq_tolds {K : PySem.W.Frag} {H : Hp} {a b : Addr} {as bs : List Addr} {ts : List (Str × V)} {Q : VK} (ha : SqL K H a (as.map V.ref)) (hb : SqL K H b (bs.map V.ref)) (h1 : ToldL K H as ts) (h2 : ToldL K H bs ts) (q : Q (.bl true) H) : rEqD K (.ref a) (.ref b) H Q := by
  have sh := told_shaped h1.ok
  refine ⟨_, _, .lst ha h1.dp, .lst hb h2.dp, sh, sh, ?_⟩
  rw [told_eqv h1.ok]
  exact q
theorem ne_tolds {K : PySem.W.Frag} {H : Hp} {a b : Addr} {as bs : List Addr} {ts : List (Str × V)} {Q : VK} (ha : SqL K H a (as.map V.ref)) (hb : SqL K H b (bs.map V.ref)) (h1 : ToldL K H as ts) (h2 : ToldL K H bs ts) (q : Q (.bl false) H) : rNeD K (.ref a) (.ref b) H Q := by
  have sh := told_shaped h1.ok
  refine ⟨_, _, .lst ha h1.dp, .lst hb h2.dp, sh, sh, ?_⟩
  rw [told_eqv h1.ok]
  exact q
end CT

/-! Dicts whose keys are tuples: items walked, comprehensions, displays. -/
namespace CT
open PySem PySem.Spec PySem.Calls PyProof.Rows L2
section
variable {X : Cx} {pins : List (Addr × Obj)} {σ : L2.St} {H : Hp} {s : Shared} {d : Addr} {o : Obj}
theorem frzT2 {kvs : List (List L2.Key × V)} (I : Inv X pins σ H s) (h : H d = some (.frz o (.dT kvs))) :
    (d == sysModules) = false ∧ s.heap.get? d = some o ∧ o.ExactDict ∧ ∃ (es : Array DictEntry) (ep : Nat), o.data = .dict es ep ∧ es.size = kvs.length ∧
      ∀ (i : Nat) (k : List L2.Key) (v : V), kvs[i]? = some (k, v) → ∃ (en : DictEntry) (q : Addr), es[i]? = some en ∧ en.key = .ref q ∧ RelV v en.val ∧ H q = some (.tup (k.map kV)) := by
  obtain ⟨hd, z, hs, xs, pr, o', es, ep, ho, hx, hdt, he, _⟩ := I.hok d _ h
  rw [hd] at ho
  cases ho
  refine ⟨hs, hd, hx, es, ep, hdt, ?_, fun i k v e => ?_⟩
  · have l1 : es.size = xs.length := size_of_entries he
    have l2 : kvs.length = xs.length := Paired.length pr
    omega
  · obtain ⟨b, hb, e1, e2, e3⟩ := paired_get pr e
    have q := entry_at he i
    rw [hb] at q
    exact ⟨_, b.2.1, q, rfl, e3, e2⟩
end
/-- the pairs of the locked dict at d, each a new tuple; the key is its own tuple -/
def Itit (d : Addr) (o : Obj) (kvs : List (List L2.Key × V)) : It :=
  ⟨fun i H => H d = some (.frz o (.dT kvs)) ∧ i < kvs.length, fun i H x H' => ∃ T k v q, kvs[i]? = some (k, v) ∧ H q = some (.tup (k.map kV)) ∧ x = .ref T ∧ H T = none ∧ H' = upd H T (.tup [.ref q, v]), fun i H => H d = some (.frz o (.dT kvs)) ∧ kvs.length ≤ i⟩
section
variable {P : Program} {w : World} {K : PySem.W.Frag} {d : Addr} {o : Obj} {es : Array DictEntry} {ep : Nat}
theorem turn_itemsT {kvs : List (List L2.Key × V)} {elts : List Expr} {kk : Nat} {tpos : Pos} (it : Addr) (hod : o.data = .dict es ep) :
    Turn P w K (.Tuple elts kk tpos) (Itit d o kvs) [it] it (fun i h => ∃ ok ov, IsItemIter h it d i kvs.length ep ok ov) where
  mem := by simp
  obj := fun i h st b hb => by
    have e : b = it := by simpa using hb
    subst e
    obtain ⟨ok, ov, e⟩ := st
    exact ⟨_, e, fun v z => nomatch z⟩
  keep := fun i h h' st k => let ⟨ok, ov, e⟩ := st; ⟨ok, ov, k it (by simp) _ e⟩
  item := by
    intro X hP hw hK hc i pins s σ H E I hf st hg
    subst hP hw hK
    obtain ⟨hd, hi⟩ := hg
    obtain ⟨hs, hgd, hx, es', ep', hdt, hsz, ent⟩ := frzT2 I hd
    obtain ⟨rfl, rfl⟩ := dict_ep hod hdt
    obtain ⟨⟨k, v⟩, hkv⟩ : ∃ p, kvs[i]? = some p := ⟨kvs[i], List.getElem?_eq_getElem hi⟩
    obtain ⟨en, q, hen, hkey, rv, hq⟩ := ent i k v hkv
    obtain ⟨ok, ov, he⟩ := st
    rw [← hsz] at he
    have hlt : it < s.heap.objs.size := Heap.lt_size he
    obtain ⟨hie, hee⟩ := Array.getElem?_eq_some_iff.mp hen
    refine DT.nextI he ⟨o, hgd, hx, hdt⟩ hie fun h' ho hT hz hk => ?_
    rw [hee, hkey] at hT
    refine ⟨_, rfl, wpAny_letOwnedTupleGo_items (s := { s with heap := h' }) ho fun h'' he' sb => ?_⟩
    have hT2 : h''.get? s.heap.objs.size = some { cls := .type "tuple", data := .seq #[.ref q, en.val] } := (sb.2 _ (Nat.ne_of_gt hlt)).trans hT
    have new : ObjOk X.prog X.w (upd H s.heap.objs.size (.tup [.ref q, v])) h'' s.heap.objs.size (.tup [.ref q, v]) :=
      ⟨by show 2 ≤ sizeLine; decide, [.ref q, en.val], .cons rfl (.cons rv .nil), ⟨_, hT2, rfl, _, rfl⟩⟩
    have I1 : Inv X pins σ (upd H s.heap.objs.size (.tup [.ref q, v])) { s with heap := h'' } :=
      I.turnedNew (t' := s.toks) (ch := [it]) (fun b ob hb e => (sb.2 b (by simpa using hb)).trans (hk b ob (by simpa using hb) e)) hf (Nat.le_refl _) new
    refine ⟨.ref s.heap.objs.size, _, I1, rfl, ⟨_, k, v, q, hkv, hq, rfl, I.hok.fresh (Nat.le_refl _), rfl⟩, ⟨es'[i].key, es'[i].val, ?_⟩, fun b hb => ?_⟩
    · rw [← hsz]
      exact he'
    · have e : b = it := by simpa using hb
      rw [e, upd_ne (Nat.ne_of_lt hlt)]
      exact (hf it (by simp)).1
  done := by
    intro X hP hw hK hc i pins s σ H E I hf st hg
    subst hP hw hK
    obtain ⟨hd, hi⟩ := hg
    obtain ⟨f0, f1, f2, f3, f4, f5⟩ := hf it (by simp)
    obtain ⟨hs, hgd, hx, es', ep', hdt, hsz, ent⟩ := frzT2 I hd
    obtain ⟨rfl, rfl⟩ := dict_ep hod hdt
    obtain ⟨ok, ov, he⟩ := st
    rw [← hsz] at he
    exact DT.endI (I.ok.hd hc) he ⟨o, hgd, hx, hdt⟩ (by omega) fun h' eb => ⟨rfl, I.turned (t' := s.toks) (fun b ob hb e => eb b ob hb e) f0 f1 f3 f4 f5⟩
  self := fun A i s Q E st h => let ⟨_, _, e⟩ := st; PySem.W.kcp_self e h
end
def iItemsT (td : TE) : TI := fun σ H R => td σ H fun x H1 => ∃ d o kvs, x = .ref d ∧ H1 d = some (.frz o (.dT kvs)) ∧ R (Itit d o kvs) H1
theorem pi_itemsT {X : Cx} {e : Expr} {td : TE} {apos cpos : Pos} {elts : List Expr} {kk : Nat} {tpos : Pos} (he : PE X e td) (hbase : attributeBase e "items" X.env (eval e X.env) = eval e X.env := by rfl) (hline : (apos.endLine == cpos.line) = true := by rfl) :
    PI X (.Tuple elts kk tpos) (.Call (.Attribute e "items" apos) [] [] cpos) (iItemsT td) := by
  refine ⟨fun pins s σ H R I h => ?_⟩
  refine wpAny_Call_method (T := "dict") (id := "dict.items") hbase rfl hline F.plainAttrs_dict F.slot_dict_items F.type_dict_items (thn (he.run pins s σ H _ I h) fun u s1 ⟨x, H1, I1, rx, d, o, kvs, ex, hd, q⟩ => ?_)
  subst ex
  obtain rfl : u = Value.ref d := rx
  obtain ⟨hs, hgd, hx, es, ep, hdt, hsz, ent⟩ := frzT2 I1 hd
  have rw0 : DT.Raw s1.heap d es ep := ⟨o, hgd, hx, hdt⟩
  refine ⟨rw0.typeIs, fun b hb => ?_, ?_⟩
  · cases hb
    exact ⟨o, hgd, hx.2.1⟩
  have I2 : Inv X pins σ H1 { s1 with heap := s1.heap.push { cls := .type "dict_items", data := .fields #[.ref d] } } := I1.kept (t' := s1.toks) fun b ob q => Heap.get?_push_of_some _ q
  have fin : wpAny (model X.prog X.w) X.A (pyIter (.ref s1.heap.objs.size)) (PIE X pins σ (.Tuple elts kk tpos) R) X.xe { s1 with heap := s1.heap.push { cls := .type "dict_items", data := .fields #[.ref d] } } := by
    refine DT.iterI (d := d) ⟨_, Heap.get?_push_size _ rfl, rfl, rfl⟩ (rw0.push _) (pi_one (tk := s1.toks) I2 _ (turn_itemsT _ hdt) ⟨.none, .none, ?_⟩ q)
    rw [← hsz]
    exact Heap.get?_push_size _ rfl
  show wpAny _ _ (callWith cpos (.builtin "dict.items") [.ref d] [] []) _ X.xe s1
  exact method_meetsIn F.slot_dict_items F.entry_dict_items rfl (PySem.evalArgs_none ⟨rfl, rw0.typeIs, F.args_dict_items_1 _, _, DT.meetsItems hs, rw0, fin⟩)
/-- what an item of the walk is -/
def YItemT (kvs : List (List L2.Key × V)) : Nat → Hp → V → Hp → Prop := fun i H x H' => ∃ T k v q, kvs[i]? = some (k, v) ∧ H q = some (.tup (k.map kV)) ∧ x = .ref T ∧ H T = none ∧ H' = upd H T (.tup [.ref q, v])
theorem walk_itemsT {d : Addr} {o : Obj} {kvs : List (List L2.Key × V)} : Walk (Itit d o kvs) kvs.length (fun H => H d = some (.frz o (.dT kvs))) (YItemT kvs) :=
  ⟨fun i _ hi q => ⟨q, hi⟩, fun _ q => ⟨q, Nat.le_refl _⟩, fun _ _ _ _ _ _ y => y⟩

/-! ### comprehensions that make such a dict -/
section
variable {X : Cx} {pins : List (Addr × Obj)} {σ : L2.St} {H : Hp} {s : Shared} {E : Value → Shared → Prop} {D : Addr}
theorem put_dT {kvs : List (List L2.Key × V)} {k : List L2.Key} {b : Addr} {v : V} {r : Value} {Q : Unit → Shared → Prop} (hu : X.A.units + 1 < cLine) (I : Inv X pins σ H s) (hD : H D = some (.dT kvs)) (hz : kvs.length < sizeLine)
    (hb : H b = some (.tup (k.map kV))) (rv : RelV v r) (h : ∀ s', Inv X pins σ (upd H D (.dT (putK kvs k v))) s' → Q () s') : wpAny (model X.prog X.w) X.A (dictSet D (.ref b) r) Q E s := by
  obtain ⟨z, hd, xs, rel, dd⟩ := dt_of I.hok hD
  have lz : xs.length ≤ sizeLine := Paired.length rel ▸ z
  have lp : (putK kvs k v).length ≤ sizeLine := by
    have := length_putK kvs k v
    omega
  have rm : (tupleKind (mixKind X.prog X.w)).room X.A := by
    have e : X.A.units < cLine := by omega
    first | exact tupleKind_room_in1 hu | exact tupleKind_room e | (intro _; omega) | exact e
  refine wpAny_dictSet_heap (hsz := lz) rm (key_of I.hok hb) dd fun h' dd' hs => h _ ?_
  obtain ⟨q, es, ep, hq, h2, h3, h4, _, h5⟩ := dd'
  refine d_write I (hD ▸ True.intro) hs ⟨q, hq⟩ ⟨lp, hd, _, (rel.put k hb rv).keeps fun c ys ec => ?_, q, es, ep, hq, h2, h3, h4, h5⟩
  exact (upd_ne (ne_of ec hD (fun z => nomatch z))).trans ec
end

section
variable {X : Cx}
/-- what is asked where the entry y : z is stored -/
def PutT (D : Addr) (y z : V) (H : Hp) (Nx : Hp → Prop) : Prop := ∃ kvs k b, y = .ref b ∧ H b = some (.tup (k.map kV)) ∧ H D = some (.dT kvs) ∧ kvs.length < sizeLine ∧ Nx (upd H D (.dT (putK kvs k z)))
/-- one turn -/
def tDcTurn (g : TG) (tt : TT) (tk tv : TE) (vs : List Nat) (σ : L2.St) (D : Addr) (Nx : Hp → Prop) (x : V) (H' : Hp) : Prop := g x (wipe σ vs) H' fun σ2 H2 => wipe σ2 vs = wipe σ vs ∧ tt σ2 H2 fun b H3 =>
  if b = true then tk σ2 H3 fun y H4 => tv σ2 H4 fun z H5 => PutT D y z H5 Nx else Nx H3
/-- {k: v for target in iter if ..}, the keys tuples; D is the new dict -/
def tDcT (wi : TI) (g : TG) (tt : TT) (tk tv : TE) (vs : List Nat) : TE := fun σ H Q => wi σ H fun J H1 => ∀ D, H1 D = none → ∃ W : Nat → Nat → Hp → Prop, (∃ m, W 0 m (upd H1 D (.dT []))) ∧ ∀ i m H, W i m H →
  (J.stop i H ∧ Q (.ref D) H) ∨ (J.go i H ∧ ∃ Nx : Hp → Prop, (∀ H', Nx H' → ∃ m', m' < m ∧ W (i + 1) m' H') ∧ ∀ x H', J.yld i H x H' → tDcTurn g tt tk tv vs σ D Nx x H')
theorem pe_dcT {kx vx tg iter : Expr} {ifs : List Expr} {scope : Scope} {own : List (Str × Nat)} {pos : Pos} {wi : TI} {g : TG} {tt : TT} {tk tv : TE} (hu : X.A.units + 1 < cLine) (hc : X.calm = true) (hN : X.N.Nodup) (hi : PI X tg iter wi) (ok : BlkOk X.N X.env.scope scope own)
    (hg : ∀ (s : Shared) (H : Hp) (C : Addr) (cl : List (Str × Addr)) (fp : List Addr), PG (X.blk s H scope (compEnvC scope cl C X.env) fp) tg g)
    (ht : ∀ (s : Shared) (H : Hp) (C : Addr) (cl : List (Str × Addr)) (fp : List Addr), PTs (X.blk s H scope (compEnvC scope cl C X.env) fp) ifs tt)
    (hk : ∀ (s : Shared) (H : Hp) (C : Addr) (cl : List (Str × Addr)) (fp : List Addr), PE (X.blk s H scope (compEnvC scope cl C X.env) fp) kx tk)
    (he : ∀ (s : Shared) (H : Hp) (C : Addr) (cl : List (Str × Addr)) (fp : List Addr), PE (X.blk s H scope (compEnvC scope cl C X.env) fp) vx tv)
    (hs : ∀ x, foldedSetIterable iter X.env x = pure x := by intro _; rfl) :
    PE X (.DictComp kx vx [⟨tg, iter, ifs, 0⟩] scope pos) (tDcT wi g tt tk tv (own.map (·.2))) := by
  refine ⟨fun pins s σ H Q I h => ?_⟩
  rw [arm_eval_DictComp]
  have hfree : ∀ y ∈ scope.names, y.2 = .free → ∃ c, X.env.cells.lookup y.1 = some c := fun y hy e => (ok.free y hy e).elim (fun k => I.ok.has _ (.inl k)) fun k => I.ok.has _ (.inr k)
  refine wpAny_comprehension_free (use := none) rfl hs (closure_ok hfree) ok.kind (fun y hy e => by rw [ok.uniq y hy, e]) (thn (hi.run pins s σ H _ I h) fun xv s1 hx => thn hx fun itv s2 h2 => ?_)
  obtain ⟨it, fp, tn, J, H2, ei, I2, T, st2, f2, q⟩ := h2
  subst ei
  refine wpAny_newObj_type (newEnv_comp ?_)
  obtain ⟨D, hD⟩ : ∃ D, D = s2.heap.objs.size := ⟨_, rfl⟩
  rw [← hD]
  obtain ⟨W, ⟨m0, w0⟩, turn⟩ := q D (I2.hok.fresh (Nat.le_of_eq hD.symm))
  -- the dict is laid
  obtain ⟨s3, hs3⟩ : ∃ s3 : Shared, s3 = { s2 with heap := s2.heap.push { cls := .type "dict", data := .dict #[] } } := ⟨_, rfl⟩
  have h3 : s3.heap = s2.heap.push { cls := .type "dict", data := .dict #[] } := congrArg Shared.heap hs3
  have I3 : Inv X pins σ (upd H2 D (.dT [])) s3 := by
    rw [hs3, hD]
    exact I2.laid (t' := s2.toks) (fun b o e => Heap.get?_push_of_some _ e) (Nat.le_refl _) (dt_empty s2.heap I2.big)
  have f3 : ∀ b ∈ fp, FpOk X pins (upd H2 D (.dT [])) b ∧ b < s3.heap.objs.size := fun b hb => by
    obtain ⟨o, eo, _⟩ := T.obj _ _ st2 b hb
    have lt : b < s2.heap.objs.size := Heap.lt_size eo
    refine ⟨⟨(upd_ne (Nat.ne_of_lt (hD ▸ lt))).trans (f2 b hb).1, (f2 b hb).2⟩, ?_⟩
    rw [h3, Heap.size_push]
    exact Nat.lt_succ_of_lt lt
  have st3 : tn 0 s3.heap := T.keep _ _ _ st2 fun b _ o e => h3 ▸ Heap.get?_push_of_some _ e
  have I4 := block_start I3 ok hN f3
  obtain ⟨H3, hH3⟩ : ∃ H3, H3 = upd H2 D (.dT []) := ⟨_, rfl⟩
  rw [← hH3] at I3 f3 I4 w0
  obtain ⟨cl, hcl⟩ : ∃ cl, cl = cellsFrom (s3.heap.objs.size + 1) scope.names (cloFrom X.env.cells scope.names []) := ⟨_, rfl⟩
  rw [← hcl] at I4
  have pg := hg s3 H3 s3.heap.objs.size cl fp
  have pt := ht s3 H3 s3.heap.objs.size cl fp
  have pk := hk s3 H3 s3.heap.objs.size cl fp
  have pe := he s3 H3 s3.heap.objs.size cl fp
  have goal0 : codeAny (model X.prog X.w) X.A (.compStart (.DictComp kx vx [⟨tg, iter, ifs, 0⟩] scope pos) 0 (.ref it) (.ref D) (compEnvC scope cl s3.heap.objs.size X.env)) (compPost (model X.prog X.w) X.A X.xe none (EP X pins σ Q) (.ref D) s3.heap.objs.size) { s3 with heap := pushCells (s3.heap.push { cls := .type "dict", data := .dict #[] }) scope.names } → _ := fun z => z
  rw [hcl, h3, hs3] at goal0
  refine goal0 ?_
  rw [← hs3, ← h3, ← hcl]
  have hnp : ∀ b ∈ fp, H3 b = none := fun b hb => (f3 b hb).1.1
  obtain ⟨ce, hce⟩ : ∃ ce, ce = compEnvC scope cl s3.heap.objs.size X.env := ⟨_, rfl⟩
  rw [← hce] at pg pt pk pe I4 ⊢
  have cL : ce.locals = s3.heap.objs.size := by
    rw [hce] <;> rfl
  obtain ⟨s4, hs4⟩ : ∃ s4 : Shared, s4 = { s3 with heap := pushCells (s3.heap.push { cls := .type "dict", data := .dict #[] }) scope.names } := ⟨_, rfl⟩
  rw [← hs4] at I4 ⊢
  have st4 : tn 0 s4.heap := T.keep _ _ _ st3 fun b _ o e => by
    rw [hs4]
    exact pushCells_keeps _ _ _ _ (Heap.get?_push_of_some _ e)
  have stat : ∀ {σ' : L2.St} {H' : Hp} {s' : Shared}, Inv (X.blk s3 H3 scope ce fp) [] σ' H' s' → (∀ b ∈ fp, H' b = none) → ∀ b ∈ fp, FpOk (X.blk s3 H3 scope ce fp) [] H' b := fun {σ' H' s'} J hn b hb =>
    ⟨hn b hb, (J.ok.exf b hb).1, J.ok.exfs b hb, .inl hb, fun x c e => (J.ok.exf b hb).2 x c e, fun p hp => absurd (show p ∈ ([] : List (Addr × Obj)) ++ [] from hp) (by simp)⟩
  have loop : codeAny (model X.prog X.w) X.A (.compLoop (.DictComp kx vx [⟨tg, iter, ifs, 0⟩] scope pos) 0 (.ref it) (.ref D) ce) (compPost (model X.prog X.w) X.A X.xe none (EP X pins σ Q) (.ref D) s3.heap.objs.size) s4 := by
    refine compLoop_anyD (fun n s' => ∃ i H', Inv (X.blk s3 H3 scope ce fp) [] (wipe σ (own.map (·.2))) H' s' ∧ tn i s'.heap ∧ (∀ b ∈ fp, H' b = none) ∧ W i n H') ?_ m0 ⟨0, H3, I4, st4, hnp, w0⟩
    rintro n s5 ⟨i, H5, I5, st5, n5, w5⟩
    rcases turn i n H5 w5 with ⟨stop, qq⟩ | ⟨go, Nx, hNx, step⟩
    · refine thnF (T.done (X.blk s3 H3 scope ce fp) rfl rfl rfl hc i [] s5 _ H5 (fun _ _ => False) I5 (stat I5 n5) st5 stop) fun r s6 ⟨hr, I6⟩ => ?_
      subst hr
      have I7 : Inv X pins σ H5 s6 := I3.call' (ch := fp) I6.os I6.base I6.hok I6.bare fun b hb => ⟨(f3 b hb).1.2.2.2.1, (f3 b hb).1.2.1, (f3 b hb).1.2.2.2.2.1, (f3 b hb).1.2.2.2.2.2⟩
      have nC : H5 s3.heap.objs.size = none := cL ▸ (show H5 ce.locals = none from I6.free)
      obtain ⟨m, hm, _⟩ := I6.loc
      have hm2 : s6.heap.Ns s3.heap.objs.size m := cL ▸ (show s6.heap.Ns ce.locals m from hm)
      obtain ⟨z0, z1, z2, z3, z4, z5⟩ := I3.fpOk (Nat.le_refl _) nC
      exact ⟨m, hm2, fun h'' sb => ⟨.ref D, H5, I7.turned (t' := s6.toks) (fun b o hb e => (sb.2 b hb).trans e) z0 z1 z3 z4 z5, rfl, qq⟩⟩
    · refine thnF (T.item (X.blk s3 H3 scope ce fp) rfl rfl rfl hc i [] s5 _ H5 (fun _ _ => False) I5 (stat I5 n5) st5 go) fun r s6 ⟨u, hr, h6⟩ => ?_
      subst hr
      refine thnF h6 fun _ s7 ⟨x, H7, I7, r7, y7, st7, n7⟩ => ?_
      refine thnF (pg.run _ s7 _ H7 x u _ (I7.pinned (stat I7 n7) (T.obj _ _ st7)) r7 (step x H7 y7)) fun _ s8 ⟨σ8, H8, I8, hw8, q8⟩ => ?_
      refine thnF (pt.run _ s8 σ8 H8 _ I8 q8) fun b s9 ⟨H9, I9, q9⟩ => ?_
      have fin : ∀ {s' : Shared} {H' : Hp}, Inv (X.blk s3 H3 scope ce fp) ([] ++ pinsAt fp s7.heap) σ8 H' s' → Nx H' → ∃ m, m < n ∧ ∃ i H', Inv (X.blk s3 H3 scope ce fp) [] (wipe σ (own.map (·.2))) H' s' ∧ tn i s'.heap ∧ (∀ b ∈ fp, H' b = none) ∧ W i m H' := fun {s' H'} J nx => by
        obtain ⟨m', lm, w'⟩ := hNx H' nx
        have pin' : ∀ b ∈ fp, ∀ o, s7.heap.get? b = some o → s'.heap.get? b = some o ∧ H' b = none := fun b hb o e => ⟨(J.pin (b, o) (List.mem_append_right _ (List.mem_append_right _ (mem_pinsAt hb e)))).1, (J.pin (b, o) (List.mem_append_right _ (List.mem_append_right _ (mem_pinsAt hb e)))).2.1⟩
        refine ⟨m', lm, i + 1, H', (J.unpinned (pins := [])).weak (by rw [← hw8, wipe_length]) (fun j v e => (wipe_some (hw8 ▸ e)).1), T.keep _ _ _ st7 fun b hb o e => (pin' b hb o e).1, fun b hb => ?_, w'⟩
        obtain ⟨o, e, _⟩ := T.obj _ _ st7 b hb
        exact (pin' b hb o e).2
      cases b with
      | false =>
        simp only [Bool.false_eq_true, if_false] at q9 ⊢
        exact fin I9 q9
      | true =>
        simp only [if_true] at q9 ⊢
        refine thnF (pk.run _ s9 σ8 H9 _ I9 q9) fun z s10 ⟨yk, H10, I10, r10, q10⟩ => ?_
        refine thnF (pe.run _ s10 σ8 H10 _ I10 q10) fun z2 s11 ⟨yv, H11, I11, r11, kvs, k, b, ek, hb11, hD11, hz11, nx⟩ => ?_
        subst ek
        obtain rfl : z = Value.ref b := r10
        exact put_dT (X := X.blk s3 H3 scope ce fp) hu I11 hD11 hz11 hb11 r11 fun s12 I12 => fin I12 nx
  exact codeAny_compStart_dict loop (T.self X.A 0 _ _ _ st4 loop)
end

/-! ### one entry displayed, reading a comprehension -/
theorem dcT_it {J : It} {n : Nat} {G : Hp → Prop} {Y : Nat → Hp → V → Hp → Prop} (w : Walk J n G Y) {g : TG} {tt : TT} {tk tv : TE} {vs : List Nat} {σ : L2.St} {H1 : Hp} {D : Addr} {Qd : Hp → Prop} (Pv : Nat → Hp → Prop) (h0 : Pv 0 (upd H1 D (.dT []))) (hG : ∀ i H, i ≤ n → Pv i H → G H)
    (hs : ∀ i x H H', i < n → Pv i H → Y i H x H' → tDcTurn g tt tk tv vs σ D (Pv (i + 1)) x H') (hd : ∀ H, Pv n H → Qd H) :
    ∃ W : Nat → Nat → Hp → Prop, (∃ m, W 0 m (upd H1 D (.dT []))) ∧ ∀ i m H, W i m H → (J.stop i H ∧ Qd H) ∨ (J.go i H ∧ ∃ Nx : Hp → Prop, (∀ H', Nx H' → ∃ m', m' < m ∧ W (i + 1) m' H') ∧ ∀ x H', J.yld i H x H' → tDcTurn g tt tk tv vs σ D Nx x H') := by
  refine ⟨fun i m H => m = n - i ∧ i ≤ n ∧ Pv i H, ⟨n, (Nat.sub_zero n).symm, Nat.zero_le _, h0⟩, fun i m H ⟨em, hi, p⟩ => ?_⟩
  subst em
  rcases Nat.lt_or_ge i n with lt | ge
  · exact .inr ⟨w.goes i H lt (hG i H hi p), Pv (i + 1), fun H' p' => ⟨n - (i + 1), by omega, rfl, lt, p'⟩, fun x H' y => hs i x H H' lt p (w.yields i H x H' lt (hG i H hi p) y)⟩
  · obtain rfl : i = n := Nat.le_antisymm hi ge
    exact .inl ⟨w.stops H (hG i H hi p), hd H p⟩
/-- {k: v}, k a tuple -/
def tDispT (tk tv : TE) : TE := fun σ H Q => ∀ p, H p = none → tk σ (upd H p (.dT [])) fun y H1 => tv σ H1 fun z H2 => H2 p = some (.dT []) ∧ ∃ k b, y = .ref b ∧ H2 b = some (.tup (k.map kV)) ∧ Q (.ref p) (upd H2 p (.dT [(k, z)]))
theorem pe_dispT {X : Cx} {pos : Pos} {k v : Expr} {tk tv : TE} (hu : X.A.units + 1 < cLine) (hk : PE X k tk) (hv : PE X v tv) : PE X (.Dict [some k] [v] pos) (tDispT tk tv) := by
  refine ⟨fun pins s σ H Q I q => ?_⟩
  have hn := I.hok.fresh (Nat.le_refl s.heap.objs.size)
  have I1 := I.laid (a := s.heap.objs.size) (o := .dT []) (h' := s.heap.push { cls := .type "dict", data := .dict #[] }) (t' := s.toks) (fun _ _ q => Heap.get?_push_of_some _ q) (Nat.le_refl _) (dt_empty s.heap I.big)
  refine PySem.wpAny_Dict_any rfl rfl (by simp) (Nat.le_of_ble_eq_true rfl) (pairTrees_cons_walk (thn (hk.run pins _ σ _ _ I1 (q _ hn)) fun u s1 ⟨y, H1, I2, ry, q1⟩ => thn (hv.run pins s1 σ H1 _ I2 q1) fun r s2 ⟨z, H2, I3, rz, hp, kk, b, ey, eb, q2⟩ => pairTrees_nil_walk ?_))
  subst ey
  obtain rfl : u = Value.ref b := ry
  unfold PySem.storeAll
  rw [List.forIn_cons]
  refine wpAny_bind (wpAny_bind (put_dT hu I3 hp (by show 0 < sizeLine; decide) eb rz fun s3 I4 => wpAny_pure ?_))
  show wpAny _ _ (forIn [] PUnit.unit _) _ _ _
  rw [List.forIn_nil]
  exact wpAny_pure ⟨.ref s.heap.objs.size, _, I4, rfl, q2⟩
/-! ### list(d.items()) -/
def PairsOf (H H' : Hp) (kvs : List (List L2.Key × V)) (ts : List Addr) : Prop := ts.length = kvs.length ∧ ∀ (j : Nat) (t : Addr), ts[j]? = some t → ∃ k v q, kvs[j]? = some (k, v) ∧ H q = some (.tup (k.map kV)) ∧ H' t = some (.tup [.ref q, v])
def rItemsLT : V → Hp → VK → Prop := fun x H Q => ∃ (d : Addr) (kvs : List (List L2.Key × V)), x = .ref d ∧ H d = some (.dT kvs) ∧ ∀ (H' : Hp) (p : Addr) (ts : List Addr), Same H H' → H p = none → H' p = some (.lst (ts.map V.ref)) → PairsOf H H' kvs ts → Q (.ref p) H'
def tListItemsT (te : TE) : TE := fun σ H Q => te σ H fun x H1 => rItemsLT x H1 Q
section
variable {prog : Program} {w : World} {A : Around} {s : Shared} {r d : Addr} {es : Array DictEntry} {ep : Nat}
theorem list_initT {R : Result → Shared → Prop} (hh : A.handled = none) (hv : s.heap.IsItemsView r d) (hm : DT.Raw s.heap d es ep) (S : Addr) (hSr : S ≠ r) (hSd : d ≠ S) (hS : s.heap.get? S = some { cls := .type "list", data := .seq #[] })
    (hR : ∀ h' tk acc c as, (∀ b o, b ≠ S → s.heap.get? b = some o → h'.get? b = some o) → h'.get? S = some { cls := .type "list", dict := none, data := .seq acc c, slots := #[] } → as.length = es.size → DT.Made es S h' as → acc.toList = as.map Value.ref → R (.ok (.ret .none)) { s with heap := h', toks := tk })
    (hn : es.size ≤ sizeLine) : wpAny (model prog w) A.in1 (Builtin.«list.__init__» ⟨[.ref S, .ref r], []⟩) (GQ.FinOf prog w A R) (fun e s' => R (.error e) s') s := by
  have hS2 := Heap.get?_update_self (Obj.mapSeq (fun _ => (#[] : Array Value))) hS rfl
  have oth : ∀ b o, b ≠ S → s.heap.get? b = some o → (s.heap.update S (Obj.mapSeq (fun _ => (#[] : Array Value)))).get? b = some o := fun b o hb e => (Heap.get?_update_other _ _ (Ne.symm hb)).trans e
  have fin := DT.extI (prog := prog) (w := w) (R := R) (s := { s with heap := s.heap.update S (Obj.mapSeq (fun _ => (#[] : Array Value))) }) hh (let ⟨o, ho, x⟩ := hv; ⟨o, oth r o hSr.symm ho, x⟩) (hm.at' fun o e => oth d o hSd e) S hSr hSd .none _ hS2
    (fun h' tk acc c as hk hS' hl hG hacc => hR h' tk acc c as (fun b o hb e => hk b o hb (oth b o hb e)) hS' hl (hG.low (Nat.le_of_lt (Heap.lt_size hS2))) hacc) hn
  have go : wpAny (model prog w) A.in1 (do let old ← Builtin.List.listItems (.ref S); Builtin.List.listUpdate (.ref S) (fun _ => #[]); letGo old.toList.reverse; Builtin.List.listExtendWith (.ref S) (.ref r) .none) (GQ.FinOf prog w A R) (fun e s' => R (.error e) s') s := by
    refine wpAny_bind ?_
    unfold Builtin.List.listItems
    refine wpAny_bind (wpAny_seqItems hS rfl (wpAny_pure ?_))
    exact wpAny_bind (wpAny_updateSeq hS rfl (wpAny_bind (wpAny_letGo fin)))
  exact go
end
theorem vals_refsT : ∀ as : List Addr, Vals (as.map V.ref) (as.map Value.ref)
  | [] => .nil
  | _ :: as => .cons rfl (vals_refsT as)
theorem pe_listItemsT {X : Cx} {e : Expr} {te : TE} {p apos cpos pos : Pos} (hc : X.calm = true) (he : PE X e te) (hg : Gl X "list") (hm : X.mg "list" = none) (hv : bootBuiltins "list" = some (.type "list")) (hbase : attributeBase e "items" X.env (eval e X.env) = eval e X.env := by rfl) (hline : (apos.endLine == cpos.line) = true := by rfl)
    (hs : starEach [.Call (.Attribute e "items" apos) [] [] cpos] X.env = (false, eval (.Call (.Attribute e "items" apos) [] [] cpos) X.env) :: starEach [] X.env := by rfl) :
    PE X (.Call (.Name "list" p) [.Call (.Attribute e "items" apos) [] [] cpos] [] pos) (tListItemsT te) := by
  refine ⟨fun pins s σ H Q I hq => ?_⟩
  refine wpAny_Call_Name_kw (ld_blt I hg hm hv (PyProof.Rows.callWith_type1 ?_ hs rfl))
  rw [hs]
  show wpAny _ _ (spliced ((false, eval (.Call (.Attribute e "items" apos) [] [] cpos) X.env) :: backTo pos (starEach [] X.env))) _ _ s
  refine Calls.spliced_cons (wpAny_Call_method (T := "dict") (id := "dict.items") hbase rfl hline F.plainAttrs_dict F.slot_dict_items F.type_dict_items (thn (he.run pins s σ H _ I hq) fun u s1 ⟨x, H1, I1, rx, d, kvs, ex, hd, q⟩ => ?_))
  subst ex
  obtain rfl : u = Value.ref d := rx
  obtain ⟨hz, hs0, xs, pr, o, es, ep, ho, hx, hdt, hent, _⟩ := (show ObjOk X.prog X.w H1 s1.heap d (.dT kvs) from I1.hok d _ hd)
  have l1 : es.size = xs.length := size_of_entries hent
  have l2 : kvs.length = xs.length := Paired.length pr
  have raw : DT.Raw s1.heap d es ep := ⟨o, ho, hx, hdt⟩
  obtain ⟨s2, e2⟩ : ∃ s2 : Shared, s2 = { s1 with heap := s1.heap.push { cls := .type "dict_items", data := .fields #[.ref d] } } := ⟨_, rfl⟩
  have I2 : Inv X pins σ H1 s2 := by
    rw [e2]
    exact I1.kept (t' := s1.toks) fun b ob q => Heap.get?_push_of_some _ q
  refine ⟨raw.typeIs, fun b hb => ?_, ?_⟩
  · cases hb
    exact ⟨o, ho, hx.2.1⟩
  show wpAny _ _ (callWith cpos (.builtin "dict.items") [.ref d] [] []) _ X.xe s1
  refine method_meetsIn F.slot_dict_items F.entry_dict_items rfl (PySem.evalArgs_none ⟨rfl, raw.typeIs, F.args_dict_items_1 _, _, DT.meetsItems (es := es) (ep := ep) hs0, raw, ?_⟩)
  refine Calls.spliced_nil ?_
  have hv2 : s2.heap.IsItemsView s1.heap.objs.size d := by
    rw [e2]
    exact ⟨_, Heap.get?_push_size _ rfl, rfl, rfl⟩
  have raw2 : DT.Raw s2.heap d es ep := by
    rw [e2]
    exact raw.push _
  obtain ⟨r, er⟩ : ∃ r, r = s1.heap.objs.size := ⟨_, rfl⟩
  rw [← e2, ← er]
  rw [← er] at hv2
  have hr : r < s2.heap.objs.size := let ⟨_, ho, _⟩ := hv2; Heap.lt_size ho
  refine callType_codes (Q₁ := fun obj s' => obj = .ref s2.heap.objs.size ∧ s' = { s2 with heap := s2.heap.push { cls := .type "list", data := .seq #[] } }) PySem.F.called_list (PySem.F.typeCall_list_1 _) PySem.F.entry_list_init (code_list_new _ ⟨rfl, rfl⟩) fun obj s3 h3 => ?_
  obtain ⟨rfl, rfl⟩ := h3
  have hS : (s2.heap.push { cls := .type "list", data := .seq #[] }).get? s2.heap.objs.size = some { cls := .type "list", data := .seq #[] } := Heap.get?_push_size _ rfl
  refine ⟨⟨_, hS, rfl⟩, PySem.F.args_list_init_2 _ _, list_initT (A := X.A.in1) (es := es) (ep := ep) (s := { s2 with heap := s2.heap.push { cls := .type "list", data := .seq #[] } }) (I2.ok.hd hc) (let ⟨o, ho, x⟩ := hv2; ⟨o, Heap.get?_push_of_some _ ho, x⟩) (raw2.push _) _ (Nat.ne_of_gt hr) (Nat.ne_of_lt raw2.lt) hS (fun h' tk acc c as hk hS' hl hG hacc => ⟨rfl, ?_⟩) (by omega)⟩
  have kp : ∀ b o, s2.heap.get? b = some o → h'.get? b = some o := fun b o e => hk b o (Nat.ne_of_lt (Heap.lt_size e)) (Heap.get?_push_of_some _ e)
  have nS : H1 s2.heap.objs.size = none := I2.hok.fresh (Nat.le_refl _)
  have J1 : Inv X pins σ (upd H1 s2.heap.objs.size (.lst (as.map V.ref))) { s2 with heap := h', toks := tk } := I2.laid (t' := tk) (o := .lst (as.map V.ref)) kp (Nat.le_refl _) ⟨by rw [List.length_map]; omega, acc.toList, c, by rw [hacc]; exact vals_refsT as, by rw [Array.toArray_toList]; exact hS'⟩
  obtain ⟨H2, J2, g, all⟩ := L2.DX.takeT (P := fun a vs => ∃ (j : Nat) (k : List L2.Key) (v : V) (q : Addr), as[j]? = some a ∧ kvs[j]? = some (k, v) ∧ H1 q = some (.tup (k.map kV)) ∧ vs = [V.ref q, v]) I2 as _ J1 (List.Pairwise.imp (fun {a b} (h : a < b) => Nat.ne_of_lt h) hG.rise) fun a ha => by
    have lo := hG.above a ha
    obtain ⟨j, hj⟩ := List.mem_iff_getElem?.mp ha
    obtain ⟨en, h1, h2⟩ := hG.pairs j a hj
    obtain ⟨hjl, _⟩ := Array.getElem?_eq_some_iff.mp h1
    obtain ⟨⟨k, v⟩, hkv⟩ : ∃ p, kvs[j]? = some p := ⟨kvs[j]'(by omega), List.getElem?_eq_getElem (by omega)⟩
    obtain ⟨b, hb, x1, x2, x3⟩ := paired_get pr hkv
    have qe := entry_at hent j
    rw [hb, h1] at qe
    have ee : en = entryOfKey (tupleKind (mixKind X.prog X.w)) b := Option.some.inj qe
    refine ⟨Nat.le_of_lt lo, (upd_ne (Nat.ne_of_gt lo)).trans (I2.hok.fresh (Nat.le_of_lt lo)), [V.ref b.2.1, v], ⟨j, k, v, b.2.1, hj, hkv, x2, rfl⟩, fun Hx => ⟨by show 2 ≤ sizeLine; decide, [en.key, en.val], .cons ?_ (.cons ?_ .nil), ⟨_, h2, rfl, _, rfl⟩⟩⟩
    · rw [ee]
      rfl
    · rw [ee]
      exact x3
  refine ⟨.ref s2.heap.objs.size, H2, J2, rfl, q H2 _ as (fun b o e => g b o ((upd_ne (ne_of_none e nS)).trans e)) nS (g _ _ upd_same) ⟨by omega, fun j t ht => ?_⟩⟩
  obtain ⟨vs, ⟨i, k, v, q', z1, z2, z3, z4⟩, z5⟩ := all t (List.mem_of_getElem? ht)
  have nd : as.Nodup := List.Pairwise.imp (fun {a b} (h : a < b) => Nat.ne_of_lt h) hG.rise
  have ij : i = j := by
    obtain ⟨i1, i2⟩ := List.getElem?_eq_some_iff.mp z1
    obtain ⟨j1, j2⟩ := List.getElem?_eq_some_iff.mp ht
    rcases Nat.lt_trichotomy i j with lt | eq | gt
    · have := List.pairwise_iff_getElem.mp hG.rise i j i1 j1 lt
      rw [i2, j2] at this
      exact absurd this (Nat.lt_irrefl _)
    · exact eq
    · have := List.pairwise_iff_getElem.mp hG.rise j i j1 i1 gt
      rw [i2, j2] at this
      exact absurd this (Nat.lt_irrefl _)
  subst ij z4
  exact ⟨k, v, q', z2, z3, z5⟩
end CT

/-! Dicts whose keys are tuples, compared. -/
namespace CT
open PySem PySem.Spec PySem.Calls PyProof.Rows L2
section
variable {prog : Program} {w : World} {K : Type} [DecidableEq K] {knd : HeapKind prog w K} {A : Around} {E : Value → Shared → Prop} {s : Shared}
/-- the first dict's entries, from some on, met in the second -/
inductive HitsT (A : Around) (s : Shared) (xb : List (K × Addr × Value)) : List (K × Addr × Value) → Bool → Prop
  | nil : HitsT A s xb [] true
  | miss {x : K × Addr × Value} {r : List (K × Addr × Value)} : atKey xb x.1 = none → HitsT A s xb (x :: r) false
  | hit {x : K × Addr × Value} {p : Addr × Value} {r : List (K × Addr × Value)} {e b : Bool} : atKey xb x.1 = some p → SeqAt.EqAt A s x.2.2 p.2 e → HitsT A s xb r b → HitsT A s xb (x :: r) (e && b)
theorem HitsT.cons_inv {xb : List (K × Addr × Value)} {x : K × Addr × Value} {r : List (K × Addr × Value)} {b : Bool} (h : HitsT A s xb (x :: r) b) :
    (atKey xb x.1 = none ∧ b = false) ∨ ∃ p e b', atKey xb x.1 = some p ∧ SeqAt.EqAt A s x.2.2 p.2 e ∧ HitsT A s xb r b' ∧ b = (e && b') := by
  cases h with
  | miss hn => exact .inl ⟨hn, rfl⟩
  | hit hp he hr => exact .inr ⟨_, _, _, hp, he, hr, rfl⟩
theorem samePairsT {nm : String} {a b : Addr} {xa xb : List (K × Addr × Value)} {r : Bool} {Q : Bool → Shared → Prop} (hu : knd.room A) (ha : (a == sysModules) = false) (hb : (b == sysModules) = false)
    (da : s.heap.DictOfH knd a xa) (db : s.heap.DictOfH knd b xb) (hits : xa.length = xb.length → HitsT A s xb xa r) (h : Q (xa.length == xb.length && r) s) :
    wpAny (model prog w) A (Builtin.Dict.samePairs nm a b) Q E s := by
  obtain ⟨oa, es, ep, hoa, _, hda, hea, ha1, _⟩ := da
  obtain ⟨ob, es', ep', hob, _, hdb, heb, hb1, hnb⟩ := db
  have la : es.size = xa.length := size_of_entries hea
  have lb : es'.size = xb.length := size_of_entries heb
  unfold Builtin.Dict.samePairs Builtin.Dict.showsAll
  rw [if_neg (fun z => Bool.false_ne_true (ha.symm.trans z)), if_neg (fun z => Bool.false_ne_true (hb.symm.trans z))]
  refine wpAny_bind (wpAny_pure (wpAny_bind (wpAny_pure (wpAny_bind (wpAny_dictEntries hoa hda ?_)))))
  dsimp only
  refine wpAny_bind (wpAny_dictEntries hob hdb ?_)
  by_cases hsz : es.size = es'.size
  case neg =>
    rw [if_pos (by simpa using hsz)]
    have hf : (xa.length == xb.length) = false := by
      rw [← la, ← lb]
      simpa using hsz
    rw [hf, Bool.false_and] at h
    exact wpAny_bind (wpAny_rule (wpAny_pure h))
  case pos =>
    have hll : xa.length = xb.length := by omega
    have hq : Q r s := by
      rw [hll] at h
      simpa using h
    rw [if_neg (by rw [hsz]; simp)]
    refine wpAny_bind (wpAny_dictEpoch hoa hda (wpAny_bind ?_))
    rw [Std.Legacy.Range.forIn_eq_forIn_range']
    simp only [Std.Legacy.Range.size, Nat.sub_zero, Nat.add_sub_cancel, Nat.div_one]
    refine wpAny_forIn_list _ (fun rest q s' => s' = s ∧ q = (none, ()) ∧ ∃ i, rest = List.range' i (es.size - i) ∧ i ≤ es.size ∧ HitsT A s xb (xa.drop i) r) _ ?_ ?_ _ _ ⟨rfl, rfl, 0, by simp, Nat.zero_le _, hits hll⟩
    · rintro x rest q s' ⟨rfl, rfl, i, hr, hi, hpre⟩
      have hlt : i < es.size := by
        rcases Nat.lt_or_ge i es.size with l | l
        · exact l
        · rw [Nat.sub_eq_zero_of_le l] at hr
          simp at hr
      have e1 : es.size - i = (es.size - (i + 1)) + 1 := by omega
      rw [e1, List.range'_succ] at hr
      obtain ⟨ex, hrest⟩ : x = i ∧ rest = List.range' (i + 1) (es.size - (i + 1)) := by
        injection hr with h1 h2
        exact ⟨h1, h2⟩
      subst ex
      refine wpAny_bind (wpAny_dictEntries hoa hda ?_)
      have hlt' : x < xa.length := by omega
      have hent : es[x] = entryOfKey knd xa[x] := by
        have := entry_at hea x
        rw [Array.getElem?_eq_getElem hlt, List.getElem?_eq_getElem hlt'] at this
        exact Option.some.inj this
      rw [Array.getElem?_eq_getElem hlt, hent]
      rw [List.drop_eq_getElem_cons hlt'] at hpre
      show wpAny _ _ (holding [Value.ref xa[x].2.1, xa[x].2.2] _ >>= _) _ _ _
      refine wpAny_bind (wpAny_holding (wpAny_bind ?_))
      show wpAny _ _ (dictFind b (.ref xa[x].2.1) (knd.hash xa[x].1)) _ _ _
      refine wpAny_dictFind_heap (xs := xb) hu (ha1 _ (List.getElem_mem hlt')) hob hdb heb hb1 hnb (fun hno => ?_) (fun j p hj => ?_)
      · rcases hpre.cons_inv with ⟨_, er⟩ | ⟨p, _, _, hp, _⟩
        · rw [er] at hq
          refine wpAny_pure ?_
          show wpAny _ _ (if (!false) = true then _ else _) _ _ _
          rw [if_pos (by decide)]
          exact wpAny_pure (wpAny_pure hq)
        · rw [atKey_none_of_get hno] at hp
          cases hp
      · refine wpAny_bind (wpAny_dictEntries hob hdb ?_)
        have hjl : j < es'.size := by
          obtain ⟨z, _⟩ := List.getElem?_eq_some_iff.mp hj
          omega
        have hentj : es'[j] = entryOfKey knd (xa[x].1, p) := by
          have := entry_at heb j
          rw [Array.getElem?_eq_getElem hjl, hj] at this
          exact Option.some.inj this
        rw [Array.getElem?_eq_getElem hjl, hentj]
        have hat := atKey_of_get hnb hj
        rcases hpre.cons_inv with ⟨hn, _⟩ | ⟨p', e, b', hp, he, hrr, er⟩
        · rw [hat] at hn
          cases hn
        · rw [hat] at hp
          cases hp
          refine wpAny_holding (he prog w _ _ ?_)
          cases e with
          | false =>
            rw [er, Bool.false_and] at hq
            show wpAny _ _ (if (!false) = true then _ else _) _ _ _
            rw [if_pos (by decide)]
            exact wpAny_pure (wpAny_pure hq)
          | true =>
            rw [Bool.true_and] at er
            subst er
            show wpAny _ _ (if (!true) = true then _ else _) _ _ _
            rw [if_neg (by decide)]
            refine wpAny_bind (wpAny_dictEpoch hoa hda ?_)
            rw [if_neg (by simp)]
            exact wpAny_pure ⟨rfl, rfl, x + 1, hrest, hlt, hrr⟩
    · rintro q s' ⟨rfl, rfl, i, hr, hi, hpre⟩
      have hin : i = es.size := by
        rcases Nat.lt_or_ge i es.size with l | l
        · have e1 : es.size - i = (es.size - (i + 1)) + 1 := by omega
          rw [e1, List.range'_succ] at hr
          exact nomatch hr
        · exact Nat.le_antisymm hi l
      refine wpAny_pure ?_
      rw [hin, la, List.drop_length] at hpre
      cases hpre
      exact hq
theorem eqDictT {a b : Addr} {xa xb : List (K × Addr × Value)} {r : Bool} {Q : Value → Shared → Prop} (hu : A.units < cLine) (hr : knd.room A.in1) (ha : (a == sysModules) = false) (hb : (b == sysModules) = false)
    (da : s.heap.DictOfH knd a xa) (db : s.heap.DictOfH knd b xb) (hits : xa.length = xb.length → HitsT A.in1 s xb xa r) (h : Q (.bool (xa.length == xb.length && r)) s) :
    wpAny (model prog w) A (compareOp .Eq (.ref a) (.ref b)) Q E s := by
  refine wpAny_richCompare_same_room (op := .Eq) da.typeIs db.typeIs PySem.F.slot_dict_eq (wpAny_call_entry PySem.F.slot_dict_eq da.typeIs PySem.F.entry_dict_eq ?_ (PySem.F.args_dict_eq_2 _ _)) hu
  refine wpAny_bind (m := Builtin.Dict.dictSlotArgs "__eq__" ⟨[.ref a, .ref b], []⟩) ?_
  unfold Builtin.Dict.dictSlotArgs
  refine wpAny_bind (wpAny_notOrdered_dict da.typeIs ?_)
  refine wpAny_pure (wpAny_bind (wpAny_isInstance (T := "dict") db.typeIs PySem.F.sub_dict_dict ?_))
  simp only [Bool.not_true, Bool.false_eq_true, if_false]
  refine wpAny_bind (wpAny_pure (wpAny_bind (wpAny_pure (wpAny_bind (samePairsT hr ha hb da db hits (wpAny_pure ⟨_, rfl, (fun x => nomatch x), by simpa using h⟩))))))
theorem neDictT {a b : Addr} {xa xb : List (K × Addr × Value)} {r : Bool} {Q : Value → Shared → Prop} (hu : A.units < cLine) (hr : knd.room A.in1) (ha : (a == sysModules) = false) (hb : (b == sysModules) = false)
    (da : s.heap.DictOfH knd a xa) (db : s.heap.DictOfH knd b xb) (hits : xa.length = xb.length → HitsT A.in1 s xb xa r) (h : Q (.bool (!(xa.length == xb.length && r))) s) :
    wpAny (model prog w) A (compareOp .NotEq (.ref a) (.ref b)) Q E s := by
  refine wpAny_richCompare_same_room (op := .NotEq) da.typeIs db.typeIs PySem.F.slot_dict_ne (wpAny_call_entry PySem.F.slot_dict_ne da.typeIs PySem.F.entry_dict_ne ?_ (PySem.F.args_dict_ne_2 _ _)) hu
  refine wpAny_bind (m := Builtin.Dict.dictSlotArgs "__ne__" ⟨[.ref a, .ref b], []⟩) ?_
  unfold Builtin.Dict.dictSlotArgs
  refine wpAny_bind (wpAny_notOrdered_dict da.typeIs ?_)
  refine wpAny_pure (wpAny_bind (wpAny_isInstance (T := "dict") db.typeIs PySem.F.sub_dict_dict ?_))
  simp only [Bool.not_true, Bool.false_eq_true, if_false]
  refine wpAny_bind (wpAny_pure (wpAny_bind (wpAny_pure (wpAny_bind (samePairsT hr ha hb da db hits (wpAny_pure ⟨_, rfl, (fun x => nomatch x), by simpa using h⟩))))))
end
/-! ### the rules -/
/-- the data that the values of a dict hold, by the keys -/
def DatT (K : PySem.W.Frag) (H : Hp) (f : List L2.Key → PyData) (ks : List (List L2.Key × V)) : Prop := ∀ p ∈ ks, Dp K H p.2 (f p.1) ∧ SeqAt.shaped (f p.1) = true
def sameT (f g : List L2.Key → PyData) (ks ls : List (List L2.Key × V)) : Bool := ks.length == ls.length && ks.all fun p => (valV ls p.1).isSome && PyData.eqv (f p.1) (g p.1)
section
variable {X : Cx} {pins : List (Addr × Obj)} {σ : L2.St} {H : Hp} {s : Shared}
theorem hits_of {A : Around} (I : Inv X pins σ H s) (hu : A.units + 64 < cLine) {f g : List L2.Key → PyData} {ls : List (List L2.Key × V)} {xb : List (List L2.Key × Addr × Value)} (rb : KT H ls xb) (hg : DatT X.K H g ls) :
    ∀ {ks : List (List L2.Key × V)} {xa : List (List L2.Key × Addr × Value)}, KT H ks xa → DatT X.K H f ks → HitsT A s xb xa (ks.all fun p => (valV ls p.1).isSome && PyData.eqv (f p.1) (g p.1))
  | _, _, .nil, _ => .nil
  | p :: ks, q :: xa, .cons h t, hf => by
    have ih := hits_of I hu rb hg t (fun z hz => hf z (List.mem_cons_of_mem _ hz))
    obtain ⟨h1, h2, h3⟩ := h
    have rv := rb.val p.1
    rw [List.all_cons]
    cases e : valV ls p.1 with
    | none =>
      rw [e] at rv
      have en : (atKey xb p.1).map (·.2) = none := RelO.none_of rv
      rw [Option.isSome_none, Bool.false_and, Bool.false_and]
      refine .miss ?_
      rw [← h1]
      exact Option.map_eq_none_iff.mp en
    | some y =>
      rw [e] at rv
      obtain ⟨u, eu, ru⟩ := RelO.some_of (v := y) rv
      obtain ⟨pq, epq, e2⟩ := Option.map_eq_some_iff.mp eu
      rw [Option.isSome_some, Bool.true_and]
      refine .hit (p := pq) (by rw [← h1]; exact epq) ?_ ih
      have hy : (p.1, y) ∈ ls := by
        unfold valV at e
        obtain ⟨z, hz, ez⟩ := Option.map_eq_some_iff.mp e
        have hm := List.mem_of_find?_eq_some hz
        have hk := List.find?_some hz
        have : z = (p.1, y) := Prod.ext (of_decide_eq_true hk) ez
        rw [this] at hm
        exact hm
      obtain ⟨d1, s1⟩ := hf p List.mem_cons_self
      obtain ⟨d2, s2⟩ := hg _ hy
      obtain ⟨as, r1⟩ := Dp.reads I _ _ _ d1 h3
      obtain ⟨bs, r2⟩ := Dp.reads I _ _ _ d2 (e2 ▸ ru)
      exact SeqAt.eqAt_reads _ _ A s _ _ as bs r1 r2 (SeqAt.canLay_of_shaped s1) (SeqAt.canLay_of_shaped s2) (SeqAt.room_of_shaped s1 hu)
def rEqT (K : PySem.W.Frag) : R2 := fun x y H Q => ∃ a b ks ls f g, x = .ref a ∧ y = .ref b ∧ H a = some (.dT ks) ∧ H b = some (.dT ls) ∧ DatT K H f ks ∧ DatT K H g ls ∧ Q (.bl (sameT f g ks ls)) H
def rNeT (K : PySem.W.Frag) : R2 := fun x y H Q => ∃ a b ks ls f g, x = .ref a ∧ y = .ref b ∧ H a = some (.dT ks) ∧ H b = some (.dT ls) ∧ DatT K H f ks ∧ DatT K H g ls ∧ Q (.bl (!sameT f g ks ls)) H
theorem op_eqT (hu : X.A.units + 65 < cLine) : OpR X (compareOp .Eq) (rEqT X.K) := by
  intro pins s σ H x y v u Q I rx ry h
  obtain ⟨a, b, ks, ls, f, g, rfl, rfl, ea, eb, hf, hg, q⟩ := h
  obtain rfl : v = Value.ref a := rx
  obtain rfl : u = Value.ref b := ry
  obtain ⟨_, ya, xa, ra, da⟩ := dt_of I.hok ea
  obtain ⟨_, yb, xb, rb, db⟩ := dt_of I.hok eb
  have la : ks.length = xa.length := Paired.length ra
  have lb : ls.length = xb.length := Paired.length rb
  refine eqDictT (knd := tupleKind (mixKind X.prog X.w)) (by omega) (tupleKind_room_in1 (by omega)) ya yb da db (fun _ => hits_of (A := X.A.in1) I (by show X.A.units + 1 + 64 < cLine; omega) rb hg ra hf) ⟨.bl _, H, I, rfl, ?_⟩
  rw [← la, ← lb]
  exact q
theorem op_neT (hu : X.A.units + 65 < cLine) : OpR X (compareOp .NotEq) (rNeT X.K) := by
  intro pins s σ H x y v u Q I rx ry h
  obtain ⟨a, b, ks, ls, f, g, rfl, rfl, ea, eb, hf, hg, q⟩ := h
  obtain rfl : v = Value.ref a := rx
  obtain rfl : u = Value.ref b := ry
  obtain ⟨_, ya, xa, ra, da⟩ := dt_of I.hok ea
  obtain ⟨_, yb, xb, rb, db⟩ := dt_of I.hok eb
  have la : ks.length = xa.length := Paired.length ra
  have lb : ls.length = xb.length := Paired.length rb
  refine neDictT (knd := tupleKind (mixKind X.prog X.w)) (by omega) (tupleKind_room_in1 (by omega)) ya yb da db (fun _ => hits_of (A := X.A.in1) I (by show X.A.units + 1 + 64 < cLine; omega) rb hg ra hf) ⟨.bl _, H, I, rfl, ?_⟩
  rw [← la, ← lb]
  exact q
end
end CT

/-! sorted(.., key=f, reverse=b), f a def whose answers are kept by the abstract heap. -/
namespace CT
open PySem PySem.Spec PySem.Calls PyProof.Rows L2 PySem.W
section
variable {X : Cx} {pins : List (Addr × Obj)} {σ : L2.St} {H : Hp} {s : Shared}
/-- a def that lets nothing out, called with values from somewhere below the running body -/
theorem call_in {A : Around} {k : Nat} {f : Addr} {fd : FuncData} {ps : List Str} {sp : Sp} {us : List Value} {vs : List V} {Q : VK} {E : Value → Shared → Prop} (F : FnOk X.prog X.w X.K X.mg X.base CX0 k f fd ps sp) (hb : L2.Binds X.K fd ps []) (hr : Room k A) (fr : A.frames = X.A.frames)
    (I : Inv X pins σ H s) (r : Vals vs us) (h : sp vs H Q E0) : wpAny (model X.prog X.w) A (call (.ref f) us) (EP X pins σ Q) E s := by
  have e := I.env0
  have e0 : Env0 X.prog X.w X.K X.mg X.base A X.stack s H := ⟨fr.trans e.frames, e.mod, e.bs, e.bsz, e.funs, e.frf, e.hok, e.bare⟩
  have hl := F.len _ _ _ _ h
  have hul : us.length = ps.length := r.length.symm.trans hl
  refine wpAny_call (codeAny_mono (F.run A X.stack s H ⟨us, []⟩ us vs Q E0 hr e0 (by
    have := hb s us I.kIn (by simpa using hul)
    simpa using this) r h) fun q s' hq => ?_)
  cases q with
  | error er => exact (show False from hq).elim
  | ok fl =>
    cases fl with
    | ret w => exact I.after hq
    | next => exact False.elim hq
    | brk => exact False.elim hq
    | cont => exact False.elim hq
/-- the heap without the object at a -/
def without (h : Heap) (a : Addr) : Heap := h.update a fun o => { o with data := .freed }
theorem without_at (h : Heap) (a : Addr) : (without h a).get? a = none := by
  obtain ⟨objs, l⟩ := h
  show (match (objs.modify a fun o => { o with data := .freed })[a]? with | some ⟨_, _, .freed, _⟩ => none | o => o) = none
  rw [Array.getElem?_modify]
  rw [if_pos rfl]
  cases objs[a]? with
  | none => rfl
  | some o => rfl
theorem without_ne {h : Heap} {a b : Addr} (n : b ≠ a) : (without h a).get? b = h.get? b := Heap.get?_update_other _ _ (Ne.symm n)
end
section
variable {prog : Program} {w : World} {A : Around} {E : Value → Shared → Prop} {s : Shared}
/-- sorted(x, ..): what is walked is collected, a list of it is sorted -/
theorem sorted_from {x : Value} {kw : List (Str × Value)} {Q : Value → Shared → Prop} (ha1 : argsOk "sorted" ⟨[x], kw⟩) (ha2 : ∀ x, argsOk "list.sort" ⟨[x], kw⟩)
    (h : wpAny (model prog w) A.in1 (collect x) (fun vs s1 => vs.length ≤ sizeLine ∧ ∀ E' : Value → Shared → Prop, wpAny (model prog w) A.in1.in1 (Builtin.«list.sort» ⟨[.ref s1.heap.objs.size], kw⟩) (fun f s' => f = .done (.ret .none) ∧ Q (.ref s1.heap.objs.size) s') E' { s1 with heap := s1.heap.push (seqObj "list" vs.toArray 0) }) E s) :
    wpAny (model prog w) A (call (.builtin "sorted") [x] kw) Q E s := by
  refine call_function_entry_kw kind_sorted plain_sorted entry_sorted ha1 ?_
  unfold Builtin.«sorted»
  refine wpAny_bind (m := checkCount "sorted" 1 1 _) (wpAny_pure ?_)
  refine wpAny_bind (wpAny_mono h (fun vs s1 h1 => ?_) fun _ _ e => e)
  obtain ⟨hz, body⟩ := h1
  refine wpAny_bind (wpAny_newList ?_ hz)
  refine wpAny_bind (wpAny_holding (wpAny_call_entry_kw slot_list_sort ⟨_, Heap.get?_push_size s1.heap rfl, rfl⟩ entry_list_sort ?_ (ha2 _)))
  show wpAny (model prog w) A.in1.in1 (Builtin.«list.sort» ⟨[.ref s1.heap.objs.size], kw⟩) _ _ _
  refine wpAny_mono (body _) (fun f s' hf => ?_) fun _ _ e => e
  obtain ⟨rfl, hq⟩ := hf
  exact ⟨_, rfl, wpAny_pure ⟨_, rfl, hq⟩⟩
/-- what a dict, its keys, its values give in a row -/
theorem collectK {T : String} {r d : Addr} {n : Nat} {P : Nat → Value → Prop} {OK : Heap → Prop} {R : List Value → Shared → Prop} (K : KdlSrc prog w T r d n P OK) (hh : A.handled = none) (hok : OK s.heap) (hn : n ≤ sizeLine)
    (h : ∀ (h' : Heap) (tk : Nat) (vs : List Value), (∀ b o, s.heap.get? b = some o → h'.get? b = some o) → s.heap.objs.size < h'.objs.size → ItemsOf P vs.toArray n → R vs { s with heap := h', toks := tk }) :
    wpAny (model prog w) A (collect (.ref r)) R E s := by
  obtain ⟨hr, hd⟩ := K.there _ hok
  unfold collect
  refine wpAny_bind (wpAny_runValue (codeAny_builtin entry_proto_collect' ?_))
  rw [Around.under_plainId PySem.F.plain_proto_collect _]
  show wpAny _ A.in1 (newList [] >>= fun l => again (.builtin "list.__iadd__" ⟨[l, .ref r], []⟩)) _ _ s
  refine wpAny_bind (wpAny_newObj_type ?_)
  refine wpAny_pure ⟨plainId_quiet PySem.F.plain_list_iadd _, codeAny_builtin entry_list_iadd' ?_⟩
  rw [Around.under_plainId PySem.F.plain_list_iadd _]
  have hS : (s.heap.push { cls := .type "list", data := .seq ([] : List Value).toArray }).get? s.heap.objs.size = some { cls := .type "list", data := .seq #[] } := Heap.get?_push_size _ rfl
  show wpAny _ A.in1 (Builtin.List.listExtendWith (.ref s.heap.objs.size) (.ref r) (.ref s.heap.objs.size)) _ _ _
  have key := kdl_extend (A := A) (s := { s with heap := s.heap.push { cls := .type "list", data := .seq ([] : List Value).toArray } })
    (R := fun (q : Result) (s' : Shared) => ∃ (h' : Heap) (tk : Nat) (acc : Array Value) (c : Nat), q = .ok (.ret (.ref s.heap.objs.size)) ∧ s' = { s with heap := h', toks := tk } ∧ (∀ b o, s.heap.get? b = some o → h'.get? b = some o) ∧ h'.get? s.heap.objs.size = some { cls := .type "list", dict := none, data := .seq acc c, slots := #[] } ∧ ItemsOf P acc n)
    K hh (K.keep _ _ hok fun b _ o e => Heap.get?_push_of_some _ e) s.heap.objs.size (Nat.ne_of_gt hr) (Nat.ne_of_gt hd) (.ref s.heap.objs.size) 0 hS
    (fun h' tk acc c hk hS' hi => ⟨h', tk, acc, c, rfl, rfl, fun b o e => hk b o (Nat.ne_of_lt (Heap.lt_size e)) (Heap.get?_push_of_some _ e), hS', hi⟩) hn
  refine wpAny_mono key (fun fin s' x => ?_) fun e s' x => ?_
  · cases fin with
    | done f =>
      obtain ⟨h', tk, acc, c, e, rfl, hk, hS', hi⟩ := x
      cases e
      exact wpAny_bind (wpAny_load hS' (wpAny_pure (h h' tk acc.toList hk (Heap.lt_size hS') (by rw [Array.toArray_toList]; exact hi))))
    | again c1 =>
      refine ⟨x.1, codeAny_mono x.2 fun q s2 y => ?_⟩
      obtain ⟨h', tk, acc, c, rfl, rfl, hk, hS', hi⟩ := y
      exact wpAny_bind (wpAny_load hS' (wpAny_pure (h h' tk acc.toList hk (Heap.lt_size hS') (by rw [Array.toArray_toList]; exact hi))))
  · obtain ⟨_, _, _, _, e', _⟩ := x
    cases e'
end

/-- the key of a row of exponents: their sum, the row -/
def ordKey (es : List Int) : PyData := .tuple [.int es.sum, .tuple (es.map PyData.int)]
theorem ord_alike (x y : List Int) : alike (ordKey x) (ordKey y) = true := by
  have hints : ∀ xs ys : List Int, alikeAll (xs.map PyData.int) (ys.map PyData.int) = true := by
    intro xs
    induction xs with
    | nil => intro ys; simp [alikeAll]
    | cons x xs ih =>
      intro ys
      cases ys with
      | nil => simp [alikeAll]
      | cons y ys => simp [alikeAll, alike, ih]
  simp [ordKey, alike, alikeAll, hints]
theorem ints_lay (es : List Int) : PyData.canLayAll0 (es.map PyData.int) = true ∧ PyData.depthAll (es.map PyData.int) = 0 := by
  induction es with
  | nil => simp [PyData.canLayAll0, PyData.depthAll]
  | cons e es ih => simp [PyData.canLayAll0, PyData.canLay0, PyData.depthAll, PyData.depth, ih.1, ih.2]
theorem ord_depth (es : List Int) : (ordKey es).depth = 2 := by
  simp [ordKey, PyData.depth, PyData.depthAll, (ints_lay es).2]
theorem ord_shaped (es : List Int) : SeqAt.shaped (ordKey es) = true := by
  unfold SeqAt.shaped
  rw [ord_depth]
  simp [ordKey, PyData.canLay0, PyData.canLayAll0, (ints_lay es).1]
theorem dp_ints {K : PySem.W.Frag} {H : Hp} : ∀ es : List Int, DpAll K H (es.map V.int) (es.map PyData.int)
  | [] => .nil
  | e :: es => .cons (.int e) (dp_ints es)
/-- f gives a row's key: the sum, the row itself -/
def spOrd (K : PySem.W.Frag) : Sp := fun vs H Q _ => ∃ (q : Addr) (es : List Int), vs = [.ref q] ∧ SqT K H q (es.map V.int) ∧ ∀ p H', Same H H' → H' p = some (.tup [.int es.sum, .ref q]) → Q (.ref p) H'
/-- a row as it is told: its tuple, its numbers -/
abbrev Row := Addr × List Int
/-- the rows in the order that is asked -/
def ordRows (b : Bool) (items : List Row) : List Row := items.mergeSort (dataLe b fun it => ordKey it.2)
section
variable {X : Cx} {pins : List (Addr × Obj)} {σ : L2.St} {H : Hp} {s : Shared}
theorem refs_each : ∀ items : List Row, EachIs (fun (v : Value) (it : Row) => v = .ref it.1) (items.map fun it => Value.ref it.1) items
  | [] => .nil
  | _ :: r => .cons rfl (refs_each r)
theorem each_refs : ∀ {out : List Value} {items : List Row}, EachIs (fun (v : Value) (it : Row) => v = .ref it.1) out items → out = items.map fun it => Value.ref it.1
  | _, _, .nil => rfl
  | _, _, .cons h t => by
    rw [List.map_cons, ← each_refs t, h]
theorem vals_rows (items : List Row) : Vals (items.map fun it => V.ref it.1) (items.map fun it => Value.ref it.1) := by
  induction items with
  | nil => exact .nil
  | cons it r ih => exact .cons rfl ih
theorem same_sqT {K : PySem.W.Frag} {H H' : Hp} {a : Addr} {xs : List V} (e : Same H H') (h : SqT K H a xs) : SqT K H' a xs := by
  rcases h with (h | ⟨o, h⟩) | h
  · exact .inl (.inl (e _ _ h))
  · exact .inl (.inr ⟨o, e _ _ h⟩)
  · exact .inr h
/-- the keys that are made so far -/
def KeysAt (H : Hp) (items : List Row) (i : Nat) (kA : List Value) : Prop := kA.length = i ∧ ∀ (j : Nat) (u : Value), kA[j]? = some u → ∃ p it, items[j]? = some it ∧ u = .ref p ∧ H p = some (.tup [.int it.2.sum, .ref it.1])
theorem list_sort_key {A : Around} {k : Nat} {f a : Addr} {fd : FuncData} {ps : List Str} {b : Bool} {items : List Row} {R : PySem.Fin → Shared → Prop} {E : Value → Shared → Prop} (F : FnOk X.prog X.w X.K X.mg X.base CX0 k f fd ps (spOrd X.K)) (hb : L2.Binds X.K fd ps []) (hr : Room k A) (fr : A.frames = X.A.frames)
    (I : Inv X pins σ H s) (ho : s.heap.get? a = some (seqObj "list" (items.map fun it => Value.ref it.1).toArray 0)) (fa : FpOk X pins H a) (hz : items.length ≤ sizeLine) (hi : ∀ it ∈ items, SqT X.K H it.1 (it.2.map V.int))
    (q : ∀ s' H', Inv X pins σ H' s' → Same H H' → H' a = some (.lst ((ordRows b items).map fun it => V.ref it.1)) → R (.done (.ret .none)) s') :
    wpAny (model X.prog X.w) A (ksk_tree a (.ref f) b) R E s := by
  obtain ⟨vs, evs⟩ : ∃ vs, vs = items.map fun it => Value.ref it.1 := ⟨_, rfl⟩
  rw [← evs] at ho
  have hvl : vs.length = items.length := by rw [evs, List.length_map]
  have hZ : vs.length ≤ sizeLine := by omega
  have ha : a < s.heap.objs.size := Heap.lt_size ho
  obtain ⟨e1, ho1⟩ : ∃ e1, (s.heap.update a (Obj.mapSeq fun _ => (#[] : Array Value))).get? a = some (seqObj "list" #[] e1) := ⟨_, get?_update_seq ho fun _ => #[]⟩
  obtain ⟨kS, ekS⟩ : ∃ kS, kS = ((s.heap.update a (Obj.mapSeq fun _ => (#[] : Array Value))).push (seqObj "tuple" vs.toArray 0)).objs.size := ⟨_, rfl⟩
  have ekS2 : kS = s.heap.objs.size + 1 := by rw [ekS, size_push', Heap.size_update]
  unfold ksk_tree
  refine wpAny_bind (listItems_at ho rfl (wpAny_bind (listUpdate_at ho rfl ?_ (by rw [List.size_toArray]; exact hZ) (Nat.zero_le _))))
  refine wpAny_bind (seqEpoch_at ho1 rfl (wpAny_bind (wpAny_newTuple ?_ (by show vs.length ≤ _; exact hZ))))
  refine wpAny_bind (wpAny_newList ?_ (Nat.zero_le _))
  refine wpAny_holding ?_
  rw [← ekS]
  have I5 : Inv X pins σ H { s with heap := sortingHeap s.heap a vs } := I.turned (t' := s.toks) (fun c o hc e => sortingHeap_old hc e) fa.1 fa.2.1 fa.2.2.2.1 fa.2.2.2.2.1 fa.2.2.2.2.2
  have fk : FpOk X pins H kS := I.fpOk (ekS2 ▸ Nat.le_succ _) (I.hok.fresh (ekS2 ▸ Nat.le_succ _))
  have hka : kS ≠ a := by
    rw [ekS2]
    exact Nat.ne_of_gt (Nat.lt_succ_of_lt ha)
  have nk : (sortingHeap s.heap a vs).get? kS = some (seqObj "list" #[] 0) := by
    rw [ekS]
    exact Heap.get?_push_size _ rfl
  have na : (sortingHeap s.heap a vs).get? a = some (seqObj "list" #[] e1) := Heap.get?_push_of_some _ (Heap.get?_push_of_some _ ho1)
  have noc : ∀ (xs : Array Value) (n : Nat) (v : Option Value), (seqObj "list" xs n).data ≠ .cell v := fun xs n v z => by cases z
  have repin : ∀ {H' : Hp} {s' : Shared} {kA : Array Value} {e : Nat}, Inv X pins σ H' s' → FpOk X pins H' a → FpOk X pins H' kS → s'.heap.get? a = some (seqObj "list" #[] e1) → s'.heap.get? kS = some (seqObj "list" kA e) → Inv X ((a, seqObj "list" #[] e1) :: (kS, seqObj "list" kA e) :: pins) σ H' s' := fun {H' s' kA e} J f1 f2 g1 g2 =>
    J.pins_of fun p hp => by
      rcases List.mem_cons.mp hp with z | hp
      · rw [z]
        exact ⟨g1, f1.1, f1.2.1, f1.2.2.1, noc _ _⟩
      rcases List.mem_cons.mp hp with z | hp
      · rw [z]
        exact ⟨g2, f2.1, f2.2.1, f2.2.2.1, noc _ _⟩
      · exact J.pin p (List.mem_append_right _ hp)
  show wpAny (model X.prog X.w) A (ksk_rest a (.ref f) b vs.toArray e1 (.ref kS)) R E { s with heap := sortingHeap s.heap a vs }
  unfold ksk_rest
  refine wpAny_bind (wpAny_rule ?_)
  first
    | rw [List.forIn_toArray]
    | (rw [← Array.forIn_toList]; simp only [List.toList_toArray])
  refine wpAny_bind (ksk_fold (fun i s' => ∃ H' kA e, Inv X ((a, seqObj "list" #[] e1) :: (kS, seqObj "list" kA e) :: pins) σ H' s' ∧ Same H H' ∧ KeysAt H' items i kA.toList) vs 0 _
    ⟨H, #[], 0, repin I5 fa fk na nk, Same.refl H, rfl, fun j u hu => by simp at hu⟩ ?step ?done)
  case step =>
    rintro j x s' hx ⟨H', kA, e, J, sm, hl, hk⟩
    rw [Nat.zero_add] at hl
    have hj : j < items.length := by
      have := (List.getElem?_eq_some_iff.mp hx).1
      omega
    obtain ⟨it, hit⟩ : ∃ it, items[j]? = some it := ⟨_, List.getElem?_eq_getElem hj⟩
    have ex : x = .ref it.1 := by
      rw [evs, List.getElem?_map, hit] at hx
      exact (Option.some.inj hx).symm
    subst ex
    refine wpAny_bind (wpAny_attempt (wpAny_mono (call_in (E := fun _ _ => False) (Q := fun v H2 => ∃ p, v = .ref p ∧ Same H' H2 ∧ H2 p = some (.tup [.int it.2.sum, .ref it.1])) (us := [.ref it.1]) (vs := [.ref it.1]) F hb hr fr J (.cons rfl .nil) ⟨it.1, it.2, rfl, same_sqT sm (hi it (List.mem_of_getElem? hit)), fun p H2 s2 e2 => ⟨p, rfl, s2, e2⟩⟩) (fun v s2 hv => ?_) fun _ _ hF => hF.elim))
    obtain ⟨v0, H2, J2, rv, p, rfl, sm2, hp⟩ := hv
    obtain rfl : v = Value.ref p := rv
    dsimp only
    have pa := J2.pin (a, seqObj "list" #[] e1) (List.mem_append_right _ List.mem_cons_self)
    have pk := J2.pin (kS, seqObj "list" kA e) (List.mem_append_right _ (List.mem_cons_of_mem _ List.mem_cons_self))
    have fa2 : FpOk X pins H2 a := ⟨pa.2.1, fa.2⟩
    have fk2 : FpOk X pins H2 kS := ⟨pk.2.1, fk.2⟩
    have J3 : Inv X pins σ H2 s2 := J2.pins_of fun r hr => J2.pin r (List.mem_append_right _ (List.mem_cons_of_mem _ (List.mem_cons_of_mem _ hr)))
    obtain ⟨c2, hc2⟩ : ∃ c2, (s2.heap.update kS (Obj.mapSeq (·.push (.ref p)))).get? kS = some (seqObj "list" (kA.push (.ref p)) c2) := ⟨_, get?_update_seq pk.1 (·.push (.ref p))⟩
    have hs : kA.size = j := by
      rw [← hl, Array.length_toList]
    refine wpAny_bind (listUpdate_at pk.1 rfl ?_ (by omega) (by simp only [Array.size_push]; omega))
    have J4 : Inv X pins σ H2 { s2 with heap := s2.heap.update kS (Obj.mapSeq (·.push (.ref p))) } := J3.turned (t' := s2.toks) (fun c o hc e => (Heap.get?_update_other _ _ (Ne.symm hc)).trans e) fk2.1 fk2.2.1 fk2.2.2.2.1 fk2.2.2.2.2.1 fk2.2.2.2.2.2
    refine wpAny_pure ⟨rfl, H2, kA.push (.ref p), c2, repin J4 fa2 fk2 ((Heap.get?_update_other _ _ hka).trans pa.1) hc2, sm.trans sm2, ?_, fun i u hu => ?_⟩
    · rw [Array.length_toList, Array.size_push, hs]
      omega
    · rw [Array.toList_push, List.getElem?_append] at hu
      split at hu
      · obtain ⟨p', it', z1, z2, z3⟩ := hk i u hu
        exact ⟨p', it', z1, z2, sm2 _ _ z3⟩
      · rename_i hge
        have hi0 : i = j := by
          rw [Array.length_toList, hs] at hge hu
          have := (List.getElem?_eq_some_iff.mp hu).1
          simp at this
          omega
        subst hi0
        rw [Array.length_toList, hs, Nat.sub_self] at hu
        exact ⟨p, it, hit, (Option.some.inj hu).symm, hp⟩
  case done =>
    rintro s' ⟨H', kA, e, J, sm, hl, hk⟩
    rw [Nat.zero_add] at hl
    have pa := J.pin (a, seqObj "list" #[] e1) (List.mem_append_right _ List.mem_cons_self)
    have pk := J.pin (kS, seqObj "list" kA e) (List.mem_append_right _ (List.mem_cons_of_mem _ List.mem_cons_self))
    have fa2 : FpOk X pins H' a := ⟨pa.2.1, fa.2⟩
    have fk2 : FpOk X pins H' kS := ⟨pk.2.1, fk.2⟩
    have J3 : Inv X pins σ H' s' := J.pins_of fun r hr => J.pin r (List.mem_append_right _ (List.mem_cons_of_mem _ (List.mem_cons_of_mem _ hr)))
    have hs : kA.size = vs.length := by
      rw [← hl, Array.length_toList]
    have hk' : EachIs (fun (u : Value) (d : PyData) => ∃ as, Reads s'.heap u d as) kA.toList (items.map fun it => ordKey it.2) := by
      refine EachIs.of_zip (by rw [List.length_map]; omega) fun z hz => ?_
      obtain ⟨j, hj⟩ := List.mem_iff_getElem?.mp hz
      rw [List.getElem?_zip_eq_some] at hj
      obtain ⟨p, it, z1, z2, z3⟩ := hk j _ hj.1
      have h2 := hj.2
      rw [List.getElem?_map, z1] at h2
      have e2 : ordKey it.2 = z.2 := Option.some.inj h2
      rw [← e2]
      have hm := hi it (List.mem_of_getElem? z1)
      exact Dp.reads J3 _ (.ref p) _ (.tup (.inl (.of z3)) (.cons (.int _) (.cons (.tup (same_sqT sm hm) (dp_ints _)) .nil))) z2
    have hal : AllAlike (items.map fun it => ordKey it.2) := fun d hd d' hd' => by
      obtain ⟨x, _, rfl⟩ := List.mem_map.mp hd
      obtain ⟨y, _, rfl⟩ := List.mem_map.mp hd'
      exact ord_alike _ _
    have hsk : Sortable (items.map fun it => ordKey it.2) := .inl fun d hd => by
      obtain ⟨x, _, rfl⟩ := List.mem_map.mp hd
      exact ⟨_, _, rfl⟩
    have hu : ∀ d ∈ items.map (fun it => ordKey it.2), A.units + d.depth < cLine := fun d hd => by
      obtain ⟨x, _, rfl⟩ := List.mem_map.mp hd
      rw [ord_depth]
      have := hr.un
      omega
    refine wpAny_bind (listItems_at pk.1 rfl ?_)
    refine keyH_end (κ := dataKind s'.heap (items.map fun it => ordKey it.2)) (h₁ := without s'.heap kS) (s := s') (fun c o hc e => ?_) (without_at _ _) pk.1 pa.1 hka (SortsAt.data (s := s') hk' hal hsk hu) hs hZ fun h3 tk3 c k3 n3 => ?_
    · by_cases z : c = kS
      · rw [z, without_at] at e
        cases e
      · rw [without_ne z] at e
        exact e
    · have out : sortVals (dataKind s'.heap (items.map fun it => ordKey it.2)) b kA.toList vs = (ordRows b items).map fun it => Value.ref it.1 := by
        have ko : KeyedOut b (items.map fun it => ordKey it.2) vs (sortVals (dataKind s'.heap (items.map fun it => ordKey it.2)) b kA.toList vs) := ⟨s'.heap, kA.toList, hal, rfl, hk'⟩
        have := keyedOut_each (fun it : Row => ordKey it.2) ko (hR := by rw [evs]; exact refs_each items)
        exact each_refs this
      rw [out] at n3
      have J4 : Inv X pins σ H' { s' with heap := h3 } := J3.turnedL (t' := s'.toks) (ch := [a, kS]) (fun c o hc e => by
        have hca : c ≠ a := fun z => hc (by simp [z])
        have hck : c ≠ kS := fun z => hc (by simp [z])
        exact k3 c o hca ((without_ne hck).trans e)) fun c hc => by
          rcases List.mem_cons.mp hc with z | hc
          · rw [z]
            exact fa2
          · rw [List.mem_singleton.mp hc]
            exact fk2
      have hlen : ((ordRows b items).map fun it => V.ref it.1).length ≤ sizeLine := by
        rw [List.length_map]
        unfold ordRows
        rw [List.length_mergeSort]
        exact hz
      have J5 : Inv X pins σ (upd H' a (.lst ((ordRows b items).map fun it => V.ref it.1))) { s' with heap := h3, toks := tk3 } := J4.take (s := { s' with heap := h3 }) (h' := h3) (t' := tk3) (fun _ _ _ e => e) fa2 ⟨hlen, _, c, vals_rows _, n3⟩
      refine q _ _ J5 (fun c o e => ?_) upd_same
      rw [upd_ne (fun z => by
        have := fa.1
        rw [← z, e] at this
        cases this)]
      exact sm _ _ e
end

/-- a row of numbers as a dict's key -/
def kI (es : List Int) : List L2.Key := es.map Sum.inl
theorem kI_V (es : List Int) : (kI es).map kV = es.map V.int := by
  unfold kI
  rw [List.map_map]
  rfl
theorem kI_inj {a b : List Int} (h : kI a = kI b) : a = b := by
  have h2 := congrArg (List.map kV) h
  rw [kI_V, kI_V] at h2
  have inj : ∀ {x y : List Int}, x.map V.int = y.map V.int → x = y := by
    intro x
    induction x with
    | nil =>
      intro y h
      cases y with
      | nil => rfl
      | cons => cases h
    | cons a x ih =>
      intro y h
      cases y with
      | nil => cases h
      | cons b y =>
        rw [List.map_cons, List.map_cons] at h
        injection h with h1 h3
        injection h1 with h1
        rw [h1, ih h3]
  exact inj h2
section
variable {X : Cx}
/-- sorted(xs, key=f, reverse=b), xs a list of rows -/
def rSortKL (K : PySem.W.Frag) (f : Addr) (b : Bool) : List V → List V → Hp → VK → Prop := fun vs zs H Q => ∃ (src : Addr) (items : List Row), vs = [.ref src] ∧ zs = [.ref f, .bl b] ∧ SqL K H src (items.map fun it => V.ref it.1) ∧ (∀ it ∈ items, SqT K H it.1 (it.2.map V.int)) ∧
  ∀ l H', H l = none → Same H H' → H' l = some (.lst ((ordRows b items).map fun it => V.ref it.1)) → Q (.ref l) H'
/-- sorted(d, key=f, reverse=b), d a dict whose keys are rows -/
def rSortKD (f : Addr) (b : Bool) : List V → List V → Hp → VK → Prop := fun vs zs H Q => ∃ (src : Addr) (kvs : List (List Int × V)), vs = [.ref src] ∧ zs = [.ref f, .bl b] ∧ H src = some (.dT (kvs.map fun p => (kI p.1, p.2))) ∧
  ∀ items : List Row, items.map Prod.snd = kvs.map Prod.fst → (∀ it ∈ items, H it.1 = some (.tup (it.2.map V.int))) → ∀ l H', H l = none → Same H H' → H' l = some (.lst ((ordRows b items).map fun it => V.ref it.1)) → Q (.ref l) H'
theorem rows_vals : ∀ {items : List Row} {us : List Value}, Vals (items.map fun it => V.ref it.1) us → us = items.map fun it => Value.ref it.1
  | [], _, .nil => rfl
  | _ :: r, _, .cons h t => by
    rw [List.map_cons, ← rows_vals (items := r) t]
    exact congrArg (· :: _) h
theorem cr_sortKL {k : Nat} {f : Addr} {fd : FuncData} {ps : List Str} {b : Bool} (F : FnOk X.prog X.w X.K X.mg X.base CX0 k f fd ps (spOrd X.K)) (hb : L2.Binds X.K fd ps []) (hr : Room (k + 2) X.A) : CallRK X (.builtin "sorted") [Str.ofString "key", Str.ofString "reverse"] (rSortKL X.K f b) := by
  intro pins s σ H vs zs us ws Q I r rz h
  obtain ⟨src, items, rfl, rfl, hs, hi, q⟩ := h
  obtain rfl := Vals.ref1 r
  obtain ⟨w1, w2, rfl, e1, e2⟩ := vals2 rz
  obtain rfl : w1 = Value.ref f := e1
  obtain rfl : w2 = Value.bool b := e2
  obtain ⟨its, rv, hl, hz⟩ := I.list hs
  have ei := rows_vals rv
  rw [List.length_map] at hz
  refine sorted_from (PyProof.Rows.ksk_s2 _ _ _) (fun _ => PyProof.Rows.ksk_l2 _ _ _) (PyProof.Rows.collect_list hl.isList ⟨by rw [ei, List.length_map]; exact hz, fun E' => ?_⟩ (by rw [ei, List.length_map]; exact hz))
  obtain ⟨h1, eh1⟩ : ∃ h1, h1 = (s.heap.push (seqObj "list" #[] 0)).update s.heap.objs.size (Obj.mapSeq (· ++ its.toArray)) := ⟨_, rfl⟩
  have k1 : ∀ b o, s.heap.get? b = some o → h1.get? b = some o := fun b o e => by
    rw [eh1, Heap.get?_update_other _ _ (Nat.ne_of_gt (Heap.lt_size e))]
    exact Heap.get?_push_of_some _ e
  have z1 : h1.objs.size = s.heap.objs.size + 1 := by rw [eh1, Heap.size_update, size_push']
  have I1 : Inv X pins σ H { s with heap := h1.push (seqObj "list" its.toArray 0) } := I.kept (t' := s.toks) fun b o e => Heap.get?_push_of_some _ (k1 b o e)
  show wpAny _ _ (Builtin.«list.sort» ⟨[.ref ((s.heap.push (seqObj "list" #[] 0)).update s.heap.objs.size (Obj.mapSeq (· ++ its.toArray))).objs.size], [(Str.ofString "key", .ref f), (Str.ofString "reverse", .bool b)]⟩) _ _ _
  rw [← eh1, PyProof.Rows.ksk_t2]
  have nz : s.heap.objs.size ≤ h1.objs.size := by omega
  have ho : (h1.push (seqObj "list" its.toArray 0)).get? h1.objs.size = some (seqObj "list" (items.map fun it => Value.ref it.1).toArray 0) := by
    rw [Heap.get?_push_size _ rfl, ei]
  refine list_sort_key F hb (hr.in1.in1) rfl I1 ho (I.fpOk nz (I.hok.fresh nz)) hz hi fun s' H' J sm e => ⟨rfl, .ref h1.objs.size, H', J, rfl, q _ H' (I.hok.fresh nz) sm e⟩
theorem cr_sortKD {k : Nat} {f : Addr} {fd : FuncData} {ps : List Str} {b : Bool} (hc : X.calm = true) (F : FnOk X.prog X.w X.K X.mg X.base CX0 k f fd ps (spOrd X.K)) (hb : L2.Binds X.K fd ps []) (hr : Room (k + 2) X.A) : CallRK X (.builtin "sorted") [Str.ofString "key", Str.ofString "reverse"] (rSortKD f b) := by
  intro pins s σ H vs zs us ws Q I r rz h
  obtain ⟨src, kvs, rfl, rfl, hd, q⟩ := h
  obtain rfl := Vals.ref1 r
  obtain ⟨w1, w2, rfl, e1, e2⟩ := vals2 rz
  obtain rfl : w1 = Value.ref f := e1
  obtain rfl : w2 = Value.bool b := e2
  obtain ⟨hz, hs0, xs, pr, o, es, ep, ho, hx, hdt, hent, _⟩ := (show ObjOk X.prog X.w H s.heap src (.dT (kvs.map fun p => (kI p.1, p.2))) from I.hok src _ hd)
  have l1 : es.size = xs.length := size_of_entries hent
  have l2 : (kvs.map fun p => (kI p.1, p.2)).length = xs.length := Paired.length pr
  rw [List.length_map] at l2 hz
  refine sorted_from (PyProof.Rows.ksk_s2 _ _ _) (fun _ => PyProof.Rows.ksk_l2 _ _ _) (collectK (A := X.A.in1) (kdl_raw hs0 hx hdt) (I.ok.hd hc) ho (by omega) fun h1 tk vs k1 lt1 it => ?_)
  obtain ⟨items, ev, ek, hi⟩ : ∃ items : List Row, vs = items.map (fun it => Value.ref it.1) ∧ items.map Prod.snd = kvs.map Prod.fst ∧ ∀ it ∈ items, H it.1 = some (.tup (it.2.map V.int)) := by
    have hl : vs.length = xs.length := by
      have := it.1
      rw [List.size_toArray] at this
      omega
    refine ⟨(xs.map fun x => x.2.1).zip (kvs.map Prod.fst), ?_, ?_, fun z hz => ?_⟩
    · refine List.ext_getElem? fun j => ?_
      rw [List.getElem?_map]
      cases hj : vs[j]? with
      | none =>
        have := List.getElem?_eq_none_iff.mp hj
        rw [List.getElem?_eq_none (by simp; omega)]
        rfl
      | some v =>
        obtain ⟨en, hen, hv⟩ := it.2 j v (by simpa using hj)
        have qe := entry_at hent j
        rw [hen] at qe
        have hjl : j < vs.length := (List.getElem?_eq_some_iff.mp hj).1
        have hjx : j < xs.length := by omega
        have hjk : j < kvs.length := by omega
        rw [List.getElem?_eq_getElem hjx] at qe
        have e2 : en = entryOfKey (tupleKind (mixKind X.prog X.w)) xs[j] := Option.some.inj qe
        have ez : ((xs.map fun x => x.2.1).zip (kvs.map Prod.fst))[j]? = some (xs[j].2.1, kvs[j].1) := by
          rw [List.getElem?_zip_eq_some, List.getElem?_map, List.getElem?_map, List.getElem?_eq_getElem hjx, List.getElem?_eq_getElem hjk]
          exact ⟨rfl, rfl⟩
        rw [hv, e2, ez]
        rfl
    · rw [List.map_snd_zip]
      simp
      omega
    · obtain ⟨j, hj⟩ := List.mem_iff_getElem?.mp hz
      rw [List.getElem?_zip_eq_some] at hj
      obtain ⟨j1, j2⟩ := hj
      rw [List.getElem?_map] at j1 j2
      obtain ⟨x, hx1, ex⟩ := Option.map_eq_some_iff.mp j1
      obtain ⟨p, hp1, ep⟩ := Option.map_eq_some_iff.mp j2
      obtain ⟨x', hx2, y1, y2, _⟩ := paired_get pr (i := j) (a := (kI p.1, p.2)) (by rw [List.getElem?_map, hp1]; rfl)
      rw [hx1] at hx2
      cases hx2
      rw [← ex, ← ep, ← kI_V]
      exact y2
  have hlen : items.length = kvs.length := by
    have := congrArg List.length ek
    simpa using this
  refine ⟨by rw [ev, List.length_map, hlen]; exact hz, fun E' => ?_⟩
  have nz : s.heap.objs.size ≤ h1.objs.size := Nat.le_of_lt lt1
  have I1 : Inv X pins σ H { s with heap := h1.push (seqObj "list" vs.toArray 0), toks := tk } := I.kept (t' := tk) fun b o e => Heap.get?_push_of_some _ (k1 b o e)
  show wpAny _ _ (Builtin.«list.sort» ⟨[.ref h1.objs.size], [(Str.ofString "key", .ref f), (Str.ofString "reverse", .bool b)]⟩) _ _ _
  rw [PyProof.Rows.ksk_t2]
  have hoL : (h1.push (seqObj "list" vs.toArray 0)).get? h1.objs.size = some (seqObj "list" (items.map fun it => Value.ref it.1).toArray 0) := by
    rw [Heap.get?_push_size _ rfl, ev]
  refine list_sort_key F hb (hr.in1.in1) rfl I1 hoL (I.fpOk nz (I.hok.fresh nz)) (by omega) (fun it hit => .inl (.of (hi it hit))) fun s' H' J sm e => ⟨rfl, .ref h1.objs.size, H', J, rfl, q items ek hi _ H' (I.hok.fresh nz) sm e⟩
end
end CT

/-! Fractions as rational numbers, their sizes. -/
namespace CT
open PySem L2
theorem frac_divInt {t u : Int} (h : u ≠ 0) : fracT t u = (Rat.divInt t u).num ∧ fracU t u = ((Rat.divInt t u).den : Int) := by
  have hp := frac_pos (t := t) h
  have hd := den_ne (t := t) h
  have e : Rat.divInt t u = Rat.divInt (fracT t u) (fracU t u) := by
    have := Rat.divInt_mul_left (n := fracT t u) (d := fracU t u) hd
    rw [frac_mul_t h, frac_mul_u h] at this
    exact this
  have g := frac_gcd (t := t) h
  have nz : (fracU t u).natAbs ≠ 0 := by omega
  have cp : (fracT t u).natAbs.Coprime (fracU t u).natAbs := g
  have m := Rat.mk_eq_divInt (nz := nz) (c := cp)
  have eu : ((fracU t u).natAbs : Int) = fracU t u := by omega
  rw [eu] at m
  rw [e, ← m]
  exact ⟨rfl, eu.symm⟩
theorem rat_self (q : Rat) : Rat.divInt q.num (q.den : Int) = q := Rat.num_divInt_den q
theorem divInt_one' (z : Int) : Rat.divInt z 1 = (z : Rat) := by
  have := rat_self (z : Rat)
  rw [Rat.num_intCast, Rat.den_intCast] at this
  exact this
theorem den_ne0 (q : Rat) : (q.den : Int) ≠ 0 := by
  have := q.den_nz
  omega
theorem frac_add (q r : Rat) : fracT (q.num * (r.den : Int) + r.num * (q.den : Int)) ((q.den : Int) * (r.den : Int)) = (q + r).num ∧ fracU (q.num * (r.den : Int) + r.num * (q.den : Int)) ((q.den : Int) * (r.den : Int)) = ((q + r).den : Int) := by
  have e : q + r = Rat.divInt (q.num * (r.den : Int) + r.num * (q.den : Int)) ((q.den : Int) * (r.den : Int)) := by
    have := Rat.divInt_add_divInt q.num r.num (den_ne0 q) (den_ne0 r)
    rw [rat_self, rat_self] at this
    exact this
  rw [e]
  exact frac_divInt (Int.mul_ne_zero (den_ne0 q) (den_ne0 r))
theorem frac_mul (q r : Rat) : fracT (q.num * r.num) ((q.den : Int) * (r.den : Int)) = (q * r).num ∧ fracU (q.num * r.num) ((q.den : Int) * (r.den : Int)) = ((q * r).den : Int) := by
  have e : q * r = Rat.divInt (q.num * r.num) ((q.den : Int) * (r.den : Int)) := by
    have := Rat.divInt_mul_divInt q.num r.num (d₁ := (q.den : Int)) (d₂ := (r.den : Int))
    rw [rat_self, rat_self] at this
    exact this
  rw [e]
  exact frac_divInt (Int.mul_ne_zero (den_ne0 q) (den_ne0 r))
theorem rat_of {t u : Int} (hu : 0 < u) (hg : Int.gcd t u = 1) : t = (Rat.divInt t u).num ∧ u = ((Rat.divInt t u).den : Int) := by
  obtain ⟨e1, e2⟩ := frac_divInt (t := t) (u := u) (by omega)
  obtain ⟨e3, e4⟩ := (frac_same (t := t) hu).mpr hg
  rw [← e1, ← e2, e3, e4]
  exact ⟨rfl, rfl⟩
/-! ### sizes: q is a whole number of D-ths, of at most n of them -/
def Sz (D n : Nat) (q : Rat) : Prop := ∃ z : Int, q * ((D : Int) : Rat) = (z : Rat) ∧ z.natAbs ≤ n
theorem Sz.mono {D n m : Nat} {q : Rat} (h : Sz D n q) (hm : n ≤ m) : Sz D m q := by
  obtain ⟨z, e, l⟩ := h
  exact ⟨z, e, Nat.le_trans l hm⟩
theorem Sz.zero (D n : Nat) : Sz D n 0 := ⟨0, by rw [Rat.zero_mul]; rfl, Nat.zero_le _⟩
theorem Sz.one (D : Nat) : Sz D D 1 := ⟨D, by rw [Rat.one_mul], by omega⟩
theorem Sz.neg {D n : Nat} {q : Rat} (h : Sz D n q) : Sz D n (-q) := by
  obtain ⟨z, e, l⟩ := h
  exact ⟨-z, by rw [Rat.neg_mul, e, Rat.intCast_neg], by omega⟩
theorem Sz.add {D n m : Nat} {q r : Rat} (h : Sz D n q) (k : Sz D m r) : Sz D (n + m) (q + r) := by
  obtain ⟨z, e, l⟩ := h
  obtain ⟨y, f, j⟩ := k
  refine ⟨z + y, by rw [Rat.add_mul, e, f, Rat.intCast_add], ?_⟩
  have := Int.natAbs_add_le z y
  omega
theorem Sz.mul {D E n m : Nat} {q r : Rat} (h : Sz D n q) (k : Sz E m r) : Sz (D * E) (n * m) (q * r) := by
  obtain ⟨z, e, l⟩ := h
  obtain ⟨y, f, j⟩ := k
  refine ⟨z * y, ?_, ?_⟩
  · rw [Rat.intCast_mul, ← e, ← f]
    have : (((D * E : Nat) : Int) : Rat) = ((D : Int) : Rat) * ((E : Int) : Rat) := by rw [Int.natCast_mul, Rat.intCast_mul]
    rw [this]
    grind
  · rw [Int.natAbs_mul]
    exact Nat.mul_le_mul l j
theorem Sz.scale {D n : Nat} {q : Rat} (E : Nat) (h : Sz D n q) : Sz (D * E) (n * E) q := by
  have := h.mul (Sz.one E)
  rw [Rat.mul_one] at this
  exact this
theorem Sz.fits {D n : Nat} {q : Rat} (hD : 0 < D) (h : Sz D n q) : q.den ∣ D ∧ q.num.natAbs ≤ n := by
  obtain ⟨z, e, l⟩ := h
  have e2 : q.num * (D : Int) = z * (q.den : Int) := by
    have h1 : Rat.divInt (q.num * (D : Int)) (q.den : Int) = Rat.divInt z 1 := by
      have h2 : Rat.divInt q.num (q.den : Int) * Rat.divInt (D : Int) 1 = Rat.divInt (q.num * (D : Int)) ((q.den : Int) * 1) := Rat.divInt_mul_divInt _ _
      rw [rat_self, Int.mul_one] at h2
      rw [← h2]
      have h3 : Rat.divInt (D : Int) 1 = ((D : Int) : Rat) := divInt_one' _
      have h4 : Rat.divInt z 1 = (z : Rat) := divInt_one' _
      rw [h3, h4, e]
    have := (Rat.divInt_eq_divInt_iff (den_ne0 q) (by decide : (1 : Int) ≠ 0)).mp h1
    rw [Int.mul_one] at this
    exact this
  have e3 : q.num.natAbs * D = z.natAbs * q.den := by
    have := congrArg Int.natAbs e2
    rw [Int.natAbs_mul, Int.natAbs_mul] at this
    exact this
  have dv : q.den ∣ D := by
    have h1 : q.den ∣ q.num.natAbs * D := by
      rw [e3]
      exact Nat.dvd_mul_left _ _
    exact Nat.Coprime.dvd_of_dvd_mul_left (Nat.Coprime.symm q.reduced) h1
  refine ⟨dv, ?_⟩
  obtain ⟨k, ek⟩ := dv
  have hk : 0 < k := by
    rcases Nat.eq_zero_or_pos k with z0 | z0
    · rw [z0, Nat.mul_zero] at ek
      omega
    · exact z0
  have hd : 0 < q.den := Nat.pos_of_ne_zero q.den_nz
  have e4 : q.num.natAbs * k = z.natAbs := by
    rw [ek] at e3
    have : q.num.natAbs * k * q.den = z.natAbs * q.den := by
      rw [← e3, Nat.mul_assoc, Nat.mul_comm k]
    exact Nat.eq_of_mul_eq_mul_right hd this
  have : q.num.natAbs ≤ q.num.natAbs * k := Nat.le_mul_of_pos_right _ hk
  omega
/-- a size that the program's fractions may have -/
def OkS (D n : Nat) : Prop := 0 < D ∧ D < 2 ^ 1500 ∧ n < 2 ^ 1500
theorem Sz.mid {D n : Nat} {q : Rat} (o : OkS D n) (h : Sz D n q) : Mid q.num ∧ Mid (q.den : Int) := by
  obtain ⟨h0, h1, h2⟩ := o
  obtain ⟨a, b⟩ := h.fits h0
  have := Nat.le_of_dvd h0 a
  exact ⟨Nat.lt_of_le_of_lt b h2, by show ((q.den : Int)).natAbs < 2 ^ 1500; rw [Int.natAbs_natCast]; exact Nat.lt_of_le_of_lt this h1⟩
theorem Sz.of_ints {t u : Int} {D n : Nat} (hu : 0 < u) (hd : u ∣ (D : Int)) (ht : t.natAbs * D ≤ n) : Sz D n (Rat.divInt t u) := by
  obtain ⟨k, ek⟩ := hd
  refine ⟨t * k, ?_, ?_⟩
  · have h3 : Rat.divInt (D : Int) 1 = ((D : Int) : Rat) := divInt_one' _
    have h4 : Rat.divInt (t * k) 1 = ((t * k : Int) : Rat) := divInt_one' _
    rw [← h3, ← h4, Rat.divInt_mul_divInt, Int.mul_one]
    refine (Rat.divInt_eq_divInt_iff (by omega) (by decide)).mpr ?_
    rw [Int.mul_one, ek]
    grind
  · rw [Int.natAbs_mul]
    have : k.natAbs ≤ D := by
      have := congrArg Int.natAbs ek
      rw [Int.natAbs_mul, Int.natAbs_natCast] at this
      rw [this]
      exact Nat.le_mul_of_pos_left _ (by omega)
    exact Nat.le_trans (Nat.mul_le_mul_left _ this) ht
end CT

/-! Polynomials as tables, plain laws. -/
namespace CT
abbrev Mono := List Int
abbrev Tab := List (Mono × Rat)
def keysT (P : Tab) : List Mono := P.map Prod.fst
def gt : Tab → Mono → Rat
  | [], _ => 0
  | t :: r, k => if t.1 = k then t.2 else gt r k
/-- a linear word of a table -/
def ev : Tab → (Mono → Rat) → Rat
  | [], _ => 0
  | t :: r, f => t.2 * f t.1 + ev r f
theorem ev_app (P Q : Tab) (f : Mono → Rat) : ev (P ++ Q) f = ev P f + ev Q f := by
  induction P with
  | nil => show ev Q f = 0 + ev Q f; grind
  | cons t r ih => show t.2 * f t.1 + ev (r ++ Q) f = t.2 * f t.1 + ev r f + ev Q f; grind
theorem gt_none {P : Tab} {k : Mono} (h : k ∉ keysT P) : gt P k = 0 := by
  induction P with
  | nil => rfl
  | cons t r ih =>
    unfold keysT at h
    rw [List.map_cons, List.mem_cons, not_or] at h
    show (if t.1 = k then t.2 else gt r k) = 0
    rw [if_neg (fun z => h.1 z.symm)]
    exact ih h.2
theorem gt_mem {P : Tab} (nd : (keysT P).Nodup) {t : Mono × Rat} (h : t ∈ P) : gt P t.1 = t.2 := by
  induction P with
  | nil => cases h
  | cons u r ih =>
    unfold keysT at nd
    rw [List.map_cons, List.nodup_cons] at nd
    show (if u.1 = t.1 then u.2 else gt r t.1) = t.2
    rcases List.mem_cons.mp h with e | e
    · rw [e, if_pos rfl]
    · rw [if_neg (fun z => nd.1 (List.mem_map.mpr ⟨t, e, z.symm⟩))]
      exact ih nd.2 e
def dl (k : Mono) : Mono → Rat := fun j => if j = k then 1 else 0
theorem ev_dl {P : Tab} (nd : (keysT P).Nodup) (k : Mono) : ev P (dl k) = gt P k := by
  induction P with
  | nil => rfl
  | cons t r ih =>
    unfold keysT at nd
    rw [List.map_cons, List.nodup_cons] at nd
    show t.2 * dl k t.1 + ev r (dl k) = if t.1 = k then t.2 else gt r k
    rw [ih nd.2]
    unfold dl
    by_cases h : t.1 = k
    · rw [if_pos h, if_pos h, gt_none (by rw [← h]; exact nd.1)]
      grind
    · rw [if_neg h, if_neg h]
      grind
/-- an entry stored: in its place, or at the end -/
def put (P : Tab) (k : Mono) (v : Rat) : Tab := if k ∈ keysT P then P.map (fun t => if t.1 = k then (t.1, v) else t) else P ++ [(k, v)]
theorem keys_put (P : Tab) (k : Mono) (v : Rat) : keysT (put P k v) = if k ∈ keysT P then keysT P else keysT P ++ [k] := by
  unfold put
  split
  · unfold keysT
    rw [List.map_map]
    refine List.map_congr_left fun t _ => ?_
    show (if t.1 = k then (t.1, v) else t).1 = t.1
    split <;> rfl
  · unfold keysT
    rw [List.map_append]
    rfl
theorem nodup_put {P : Tab} {k : Mono} {v : Rat} (nd : (keysT P).Nodup) : (keysT (put P k v)).Nodup := by
  rw [keys_put]
  split
  · exact nd
  · rename_i h
    rw [List.nodup_append]
    exact ⟨nd, by simp, fun a ha b hb => by rw [List.mem_singleton.mp hb]; exact fun z => h (z ▸ ha)⟩
theorem gt_app (P Q : Tab) (k : Mono) : gt (P ++ Q) k = if k ∈ keysT P then gt P k else gt Q k := by
  induction P with
  | nil => rfl
  | cons t r ih =>
    show (if t.1 = k then t.2 else gt (r ++ Q) k) = if k ∈ keysT (t :: r) then (if t.1 = k then t.2 else gt r k) else gt Q k
    have : k ∈ keysT (t :: r) ↔ k = t.1 ∨ k ∈ keysT r := by
      unfold keysT
      rw [List.map_cons, List.mem_cons]
    by_cases h : t.1 = k
    · rw [if_pos h, if_pos (this.mpr (.inl h.symm)), if_pos h]
    · rw [if_neg h, ih, if_neg h]
      by_cases h2 : k ∈ keysT r
      · rw [if_pos h2, if_pos (this.mpr (.inr h2))]
      · rw [if_neg h2, if_neg (fun z => (this.mp z).elim (fun z => h z.symm) h2)]
theorem gt_put (P : Tab) (k : Mono) (v : Rat) (j : Mono) : gt (put P k v) j = if j = k then v else gt P j := by
  unfold put
  split
  · rename_i h
    have key : ∀ Q : Tab, gt (Q.map (fun t => if t.1 = k then (t.1, v) else t)) j = if j = k ∧ k ∈ keysT Q then v else gt Q j := by
      intro Q
      induction Q with
      | nil => simp [keysT, gt]
      | cons t r ih =>
        rw [List.map_cons]
        show (if (if t.1 = k then (t.1, v) else t).1 = j then (if t.1 = k then (t.1, v) else t).2 else gt (r.map _) j) = _
        rw [ih]
        show _ = if j = k ∧ k ∈ keysT (t :: r) then v else if t.1 = j then t.2 else gt r j
        have : k ∈ keysT (t :: r) ↔ k = t.1 ∨ k ∈ keysT r := by
          unfold keysT
          rw [List.map_cons, List.mem_cons]
        simp only [this]
        by_cases h1 : t.1 = k
        · by_cases h2 : j = k
          · subst h2; simp [h1]
          · have h3 : ¬ t.1 = j := fun z => h2 (z.symm.trans h1)
            have h4 : ¬ k = j := fun z => h2 z.symm
            simp [h1, h2, h4]
        · by_cases h2 : j = k
          · subst h2
            have h4 : ¬ j = t.1 := fun z => h1 z.symm
            simp [h1, h4]
          · simp [h1, h2]
    rw [key]
    simp [h]
  · rename_i h
    rw [gt_app]
    by_cases h2 : j = k
    · subst h2
      rw [if_neg h, if_pos rfl]
      show (if j = j then v else 0) = v
      rw [if_pos rfl]
    · rw [if_neg h2]
      split
      · rfl
      · rename_i h3
        rw [gt_none h3]
        show (if k = j then v else 0) = 0
        rw [if_neg fun z => h2 z.symm]
theorem ev_put {P : Tab} (nd : (keysT P).Nodup) (k : Mono) (v : Rat) (f : Mono → Rat) : ev (put P k v) f = ev P f + (v - gt P k) * f k := by
  unfold put
  split
  · rename_i h
    have off : ∀ Q : Tab, k ∉ keysT Q → Q.map (fun t => if t.1 = k then (t.1, v) else t) = Q := fun Q hq => by
      have : Q.map (fun t => if t.1 = k then (t.1, v) else t) = Q.map id := List.map_congr_left fun t ht => if_neg (fun z => hq (List.mem_map.mpr ⟨t, ht, z⟩))
      rw [this, List.map_id]
    induction P with
    | nil => cases h
    | cons t r ih =>
      unfold keysT at nd h
      rw [List.map_cons, List.nodup_cons] at nd
      rw [List.map_cons, List.mem_cons] at h
      rw [List.map_cons]
      show (if t.1 = k then (t.1, v) else t).2 * f (if t.1 = k then (t.1, v) else t).1 + ev (r.map _) f = t.2 * f t.1 + ev r f + (v - if t.1 = k then t.2 else gt r k) * f k
      by_cases h1 : t.1 = k
      · rw [if_pos h1, if_pos h1, off r (by rw [← h1]; exact nd.1), ← h1]
        grind
      · rw [if_neg h1, if_neg h1, ih nd.2 (h.elim (fun z => absurd z.symm h1) id)]
        grind
  · rename_i h
    rw [ev_app, gt_none h]
    show ev P f + (v * f k + 0) = _
    grind

/-! ### tables without zeros -/
def nzT (P : Tab) : Tab := P.filter fun t => decide (t.2 ≠ 0)
theorem ev_nz (P : Tab) (f : Mono → Rat) : ev (nzT P) f = ev P f := by
  induction P with
  | nil => rfl
  | cons t r ih =>
    unfold nzT at ih ⊢
    rw [List.filter_cons]
    by_cases h : t.2 = 0
    · rw [if_neg (by simp [h])]
      show _ = t.2 * f t.1 + ev r f
      rw [h, ih]
      grind
    · rw [if_pos (by simp [h])]
      show t.2 * f t.1 + ev (r.filter _) f = t.2 * f t.1 + ev r f
      rw [ih]
theorem keys_sub {P : Tab} {p : Mono × Rat → Bool} : (keysT (P.filter p)).Sublist (keysT P) := List.Sublist.map _ List.filter_sublist
theorem nodup_nz {P : Tab} (nd : (keysT P).Nodup) : (keysT (nzT P)).Nodup := List.Sublist.nodup keys_sub nd
theorem gt_nz {P : Tab} (nd : (keysT P).Nodup) (k : Mono) : gt (nzT P) k = gt P k := by
  rw [← ev_dl (nodup_nz nd), ev_nz, ev_dl nd]
/-- a polynomial's table: each product of powers once, n exponents, none below zero, no number zero -/
structure Nrm (n : Nat) (P : Tab) : Prop where
  nd : (keysT P).Nodup
  nz : ∀ t ∈ P, t.2 ≠ 0
  ln : ∀ t ∈ P, t.1.length = n ∧ ∀ e ∈ t.1, 0 ≤ e
theorem Nrm.nil (n : Nat) : Nrm n [] := ⟨List.nodup_nil, (fun _ h => by cases h), (fun _ h => by cases h)⟩
theorem gt_ne {P : Tab} (nd : (keysT P).Nodup) (nz : ∀ t ∈ P, t.2 ≠ 0) (k : Mono) : k ∈ keysT P ↔ gt P k ≠ 0 := by
  constructor
  · intro h
    obtain ⟨t, ht, e⟩ := List.mem_map.mp h
    rw [← e, gt_mem nd ht]
    exact nz t ht
  · intro h
    rcases Classical.em (k ∈ keysT P) with z | z
    · exact z
    · exact absurd (gt_none z) h
theorem mem_iff {P : Tab} (nd : (keysT P).Nodup) (nz : ∀ t ∈ P, t.2 ≠ 0) (t : Mono × Rat) : t ∈ P ↔ t.2 ≠ 0 ∧ gt P t.1 = t.2 := by
  constructor
  · intro h
    exact ⟨nz t h, gt_mem nd h⟩
  · rintro ⟨h1, h2⟩
    have hk : t.1 ∈ keysT P := (gt_ne nd nz t.1).mpr (by rw [h2]; exact h1)
    obtain ⟨u, hu, e⟩ := List.mem_map.mp hk
    have := gt_mem nd hu
    rw [e, h2] at this
    have : u = t := Prod.ext e this.symm
    rw [← this]
    exact hu
theorem nodup_of_keys {P : Tab} (nd : (keysT P).Nodup) : P.Nodup := by
  unfold keysT at nd
  induction P with
  | nil => exact List.nodup_nil
  | cons t r ih =>
    rw [List.map_cons, List.nodup_cons] at nd
    exact List.nodup_cons.mpr ⟨fun h => nd.1 (List.mem_map_of_mem h), ih nd.2⟩
/-- equal numbers at all places: the same entries -/
theorem perm_of {P Q : Tab} (p1 : (keysT P).Nodup) (p2 : ∀ t ∈ P, t.2 ≠ 0) (q1 : (keysT Q).Nodup) (q2 : ∀ t ∈ Q, t.2 ≠ 0) (h : ∀ k, gt P k = gt Q k) : P.Perm Q := by
  refine (List.perm_ext_iff_of_nodup (nodup_of_keys p1) (nodup_of_keys q1)).mpr fun t => ?_
  rw [mem_iff p1 p2, mem_iff q1 q2, h]
theorem gt_perm {P Q : Tab} (p1 : (keysT P).Nodup) (h : P.Perm Q) (k : Mono) : gt P k = gt Q k := by
  have q1 : (keysT Q).Nodup := (h.map Prod.fst).nodup_iff.mp p1
  have ev1 : ∀ f, ev P f = ev Q f := by
    intro f
    clear p1 q1
    induction h with
    | nil => rfl
    | cons t _ ih => exact congrArg (t.2 * f t.1 + ·) ih
    | swap t u r => show u.2 * f u.1 + (t.2 * f t.1 + ev r f) = t.2 * f t.1 + (u.2 * f u.1 + ev r f); grind
    | trans _ _ ih1 ih2 => rw [ih1, ih2]
  rw [← ev_dl p1, ← ev_dl q1, ev1]
theorem ev_perm {P Q : Tab} (h : P.Perm Q) (f : Mono → Rat) : ev P f = ev Q f := by
  induction h with
  | nil => rfl
  | cons t _ ih => exact congrArg (t.2 * f t.1 + ·) ih
  | swap t u r => show u.2 * f u.1 + (t.2 * f t.1 + ev r f) = t.2 * f t.1 + (u.2 * f u.1 + ev r f); grind
  | trans _ _ ih1 ih2 => rw [ih1, ih2]
/-! ### sums -/
def addK (P Q : Tab) : List Mono := keysT P ++ (keysT Q).filter fun k => decide (k ∉ keysT P)
def addP (P Q : Tab) : Tab := (addK P Q).map fun k => (k, gt P k + gt Q k)
def addT (P Q : Tab) : Tab := nzT (addP P Q)
theorem addK_nodup {P Q : Tab} (p : (keysT P).Nodup) (q : (keysT Q).Nodup) : (addK P Q).Nodup := by
  unfold addK
  rw [List.nodup_append]
  exact ⟨p, List.Sublist.nodup List.filter_sublist q, fun a ha b hb => by
    have := (List.mem_filter.mp hb).2
    exact fun z => of_decide_eq_true this (z ▸ ha)⟩
theorem mem_addK {P Q : Tab} {k : Mono} : k ∈ addK P Q ↔ k ∈ keysT P ∨ k ∈ keysT Q := by
  unfold addK
  rw [List.mem_append, List.mem_filter]
  constructor
  · rintro (h | h)
    · exact .inl h
    · exact .inr h.1
  · rintro (h | h)
    · exact .inl h
    · rcases Classical.em (k ∈ keysT P) with z | z
      · exact .inl z
      · exact .inr ⟨h, decide_eq_true z⟩
theorem keys_addP (P Q : Tab) : keysT (addP P Q) = addK P Q := by
  unfold keysT addP
  rw [List.map_map]
  exact List.map_id _
theorem gt_map {K : List Mono} (nd : K.Nodup) (g : Mono → Rat) (k : Mono) : gt (K.map fun k => (k, g k)) k = if k ∈ K then g k else 0 := by
  induction K with
  | nil => rfl
  | cons a r ih =>
    rw [List.nodup_cons] at nd
    show (if a = k then g a else gt (r.map _) k) = _
    rw [ih nd.2]
    by_cases h : a = k
    · subst h
      simp
    · have h2 : ¬ k = a := fun z => h z.symm
      simp [h, h2]
theorem gt_addT {P Q : Tab} (p : (keysT P).Nodup) (q : (keysT Q).Nodup) (k : Mono) : gt (addT P Q) k = gt P k + gt Q k := by
  unfold addT
  rw [gt_nz (by rw [keys_addP]; exact addK_nodup p q)]
  unfold addP
  rw [gt_map (addK_nodup p q)]
  split
  · rfl
  · rename_i h
    rw [mem_addK, not_or] at h
    rw [gt_none h.1, gt_none h.2]
    grind
theorem nodup_addT {P Q : Tab} (p : (keysT P).Nodup) (q : (keysT Q).Nodup) : (keysT (addT P Q)).Nodup := nodup_nz (by rw [keys_addP]; exact addK_nodup p q)
theorem nz_nzT {P : Tab} : ∀ t ∈ nzT P, t.2 ≠ 0 := fun t h => of_decide_eq_true (List.mem_filter.mp h).2
/-- a word of a table is told by its numbers -/
def sumK (K : List Mono) (g : Mono → Rat) : Rat := K.foldr (fun k a => g k + a) 0
theorem sumK_congr {K : List Mono} {g h : Mono → Rat} (e : ∀ k ∈ K, g k = h k) : sumK K g = sumK K h := by
  induction K with
  | nil => rfl
  | cons a r ih =>
    show g a + sumK r g = h a + sumK r h
    rw [e a List.mem_cons_self, ih fun k hk => e k (List.mem_cons_of_mem _ hk)]
theorem sumK_add (K : List Mono) (g h : Mono → Rat) : sumK K (fun k => g k + h k) = sumK K g + sumK K h := by
  induction K with
  | nil => show (0 : Rat) = 0 + 0; grind
  | cons a r ih =>
    show g a + h a + sumK r _ = g a + sumK r g + (h a + sumK r h)
    rw [ih]
    grind
theorem ev_sumK {P : Tab} (nd : (keysT P).Nodup) (f : Mono → Rat) : ev P f = sumK (keysT P) fun k => gt P k * f k := by
  induction P with
  | nil => rfl
  | cons t r ih =>
    unfold keysT at nd
    rw [List.map_cons, List.nodup_cons] at nd
    show t.2 * f t.1 + ev r f = (if t.1 = t.1 then t.2 else gt r t.1) * f t.1 + sumK (keysT r) _
    rw [if_pos rfl, ih nd.2]
    congr 1
    refine sumK_congr fun k hk => ?_
    show gt r k * f k = (if t.1 = k then t.2 else gt r k) * f k
    rw [if_neg]
    intro z
    exact nd.1 (z ▸ hk)
theorem sumK_mem {K : List Mono} (nd : K.Nodup) {L : List Mono} (nl : L.Nodup) (g : Mono → Rat) (h : ∀ k ∈ K, k ∈ L) (h0 : ∀ k ∈ L, k ∉ K → g k = 0) : sumK K g = sumK L g := by
  have perm : L.Perm (K ++ L.filter fun k => decide (k ∉ K)) := by
    refine (List.perm_ext_iff_of_nodup nl ?_).mpr fun k => ?_
    · rw [List.nodup_append]
      exact ⟨nd, List.Sublist.nodup List.filter_sublist nl, fun a ha b hb => fun z => of_decide_eq_true (List.mem_filter.mp hb).2 (z ▸ ha)⟩
    · rw [List.mem_append, List.mem_filter]
      constructor
      · intro hk
        rcases Classical.em (k ∈ K) with z | z
        · exact .inl z
        · exact .inr ⟨hk, decide_eq_true z⟩
      · rintro (z | z)
        · exact h k z
        · exact z.1
  have sp : ∀ {A B : List Mono}, A.Perm B → sumK A g = sumK B g := by
    intro A B e
    induction e with
    | nil => rfl
    | cons a _ ih => exact congrArg (g a + ·) ih
    | swap a b r => show g b + (g a + sumK r g) = g a + (g b + sumK r g); grind
    | trans _ _ i1 i2 => rw [i1, i2]
  rw [sp perm]
  have app : ∀ A B : List Mono, sumK (A ++ B) g = sumK A g + sumK B g := by
    intro A B
    induction A with
    | nil => show sumK B g = 0 + sumK B g; grind
    | cons a r ih => show g a + sumK (r ++ B) g = g a + sumK r g + sumK B g; rw [ih]; grind
  rw [app]
  have z : sumK (L.filter fun k => decide (k ∉ K)) g = 0 := by
    rw [sumK_congr (h := fun _ => 0) fun k hk => h0 k (List.mem_filter.mp hk).1 (of_decide_eq_true (List.mem_filter.mp hk).2)]
    generalize L.filter (fun k => decide (k ∉ K)) = M
    induction M with
    | nil => rfl
    | cons a r ih => show (0 : Rat) + sumK r _ = 0; rw [ih]; grind
  rw [z]
  grind
theorem ev_addT {P Q : Tab} (p : (keysT P).Nodup) (q : (keysT Q).Nodup) (f : Mono → Rat) : ev (addT P Q) f = ev P f + ev Q f := by
  unfold addT
  rw [ev_nz, ev_sumK (by rw [keys_addP]; exact addK_nodup p q), ev_sumK p, ev_sumK q, keys_addP]
  rw [sumK_mem p (addK_nodup p q) (fun k => gt P k * f k) (fun k hk => mem_addK.mpr (.inl hk)) (fun k _ hk => by rw [gt_none hk]; grind), sumK_mem q (addK_nodup p q) (fun k => gt Q k * f k) (fun k hk => mem_addK.mpr (.inr hk)) (fun k _ hk => by rw [gt_none hk]; grind), ← sumK_add]
  refine sumK_congr fun k hk => ?_
  unfold addP
  rw [gt_map (addK_nodup p q), if_pos hk]
  grind
theorem Nrm.add {n : Nat} {P Q : Tab} (p : Nrm n P) (q : Nrm n Q) : Nrm n (addT P Q) :=
  ⟨nodup_addT p.nd q.nd, nz_nzT, fun t ht => by
    have h1 : t ∈ addP P Q := (List.mem_filter.mp ht).1
    obtain ⟨k, hk, e⟩ := List.mem_map.mp h1
    have e1 : t.1 = k := by rw [← e]
    rw [e1]
    rcases mem_addK.mp hk with z | z
    · obtain ⟨u, hu, e2⟩ := List.mem_map.mp z
      rw [← e2]
      exact p.ln u hu
    · obtain ⟨u, hu, e2⟩ := List.mem_map.mp z
      rw [← e2]
      exact q.ln u hu⟩
end CT

/-! A class of one's own: its defs by names, its operators, static methods, properties. -/
namespace CT
open PySem PySem.Spec PySem.Calls PyProof.Rows L2 He
/-- the def of the name n at a is the statement st -/
structure Dm (K : PySem.W.Frag) (a : Addr) (n qual : Str) (st : Stmt) (dvs : List V) : Prop where
  f : ∃ fd, FunD K n qual (defArgs st) (defBody st) (defScope st) dvs [] a fd
/-- the def at a keeps sp -/
def MOk (CX : CXT) (P : Program) (w : World) (K : PySem.W.Frag) (mg : Str → Option Value) (base : Heap) (k : Nat) (a : Addr) (ps : List Str) (sp : Sp) : Prop :=
  PySem.W.keepIn K (.ref a) = true ∧ ∃ fd, FnOk P w K mg base CX k a fd ps sp ∧ L2.Binds K fd ps []
section
variable {P : Program} {w : World} {K : PySem.W.Frag} {mg : Str → Option Value} {base : Heap} {a : Addr} {n qual : Str} {st : Stmt} {CX : CXT} {N ps : List Str} {k : Nat} {sp : Sp}
theorem Dm.okX (D : Dm K a n qual st []) (S : FnScope N ps (defScope st)) (bind : ∀ (kV doc pm : Value) (an : Option Addr) (cdv ct : Value) (us : List Value), us.length = ps.length → bindArgs (PySem.W.fnOf n qual (defArgs st) (defBody st) (defScope st) .none kV doc pm an cdv ct) ⟨us, []⟩ = pure (ps.zip us))
    (len : ∀ vs H Q E, sp vs H Q E → vs.length = ps.length)
    (hbody : ∀ (cdv : Value) (A : Around) (outer : List Env) (s : Shared) (H : Hp) (vs : List V) (Q : VK) (E : XK), Room k (A.deeper (envOfC qual (defScope st) s.heap.objs.size a cdv)) → sp vs H Q E →
      ∃ t, PSs (cxOf CX P w K mg base N qual (defScope st) a cdv A outer s H E) (defBody st) t ∧ t { nx := fun _ H' => Q .non H', rt := Q } (L2.start N vs) H) : MOk CX P w K mg base (k + 1) a ps sp := by
  obtain ⟨fd, F⟩ := D.f
  exact ⟨F.kp, fd, F.ok S len hbody, F.bindsN bind⟩
theorem Dm.ok (D : Dm K a n qual st []) (S : FnScope N ps (defScope st)) (bind : ∀ (kV doc pm : Value) (an : Option Addr) (cdv ct : Value) (us : List Value), us.length = ps.length → bindArgs (PySem.W.fnOf n qual (defArgs st) (defBody st) (defScope st) .none kV doc pm an cdv ct) ⟨us, []⟩ = pure (ps.zip us))
    (len : ∀ vs H Q E, sp vs H Q E → vs.length = ps.length)
    (hbody : ∀ (cdv : Value) (A : Around) (outer : List Env) (s : Shared) (H : Hp) (vs : List V) (Q : VK) (E : XK), Room k (A.deeper (envOfC qual (defScope st) s.heap.objs.size a cdv)) → sp vs H Q E →
      ∃ t, PSs (cxOf CX0 P w K mg base N qual (defScope st) a cdv A outer s H E).nox (defBody st) t ∧ t { nx := fun _ H' => Q .non H', rt := Q } (L2.start N vs) H) : MOk CX0 P w K mg base (k + 1) a ps sp :=
  D.okX S bind len fun cdv A outer s H vs Q E hr h => by
    obtain ⟨t, ht, hq⟩ := hbody cdv A outer s H vs Q E hr h
    exact ⟨t, ht.nox, hq⟩
theorem MOk.mono {j : Nat} (F : MOk CX P w K mg base j a ps sp) (h : j ≤ k) : MOk CX P w K mg base k a ps sp := by
  obtain ⟨b, fd, F, B⟩ := F
  exact ⟨b, fd, F.mono h, B⟩
theorem MOk.imp {sp' : Sp} (F : MOk CX P w K mg base k a ps sp) (h : ∀ vs H Q E, sp' vs H Q E → sp vs H Q E) : MOk CX P w K mg base k a ps sp' := by
  obtain ⟨b, fd, F, B⟩ := F
  exact ⟨b, fd, F.imp h, B⟩
end
/-! ### calls -/
section
variable {X : Cx} {pins : List (Addr × Obj)} {σ : L2.St} {H : Hp} {s : Shared}
theorem back_of {P : Value → Shared → Prop} {z : V} {v : Value} {s' : Shared} (r : RelV z v) (h : P v s') : PySem.W.CmpBack P v s' := by
  cases z with
  | non => cases r; exact h
  | bl b => cases r; exact h
  | int i => obtain ⟨t, rfl⟩ := r; exact h
  | str x => obtain ⟨t, rfl⟩ := r; exact h
  | byt b => obtain ⟨t, rfl⟩ := r; exact h
  | flt b => obtain ⟨t, rfl⟩ := r; exact h
  | ref a => cases r; exact h
  | ty n => cases r; exact h
theorem run_own {A : Around} {CX : CXT} {k : Nat} {f : Addr} {ps : List Str} {sp : Sp} {us : List Value} {vs : List V} {Q : VK} {E : XK} (F : MOk CX X.prog X.w X.K X.mg X.base k f ps sp) (hr : Room k A) (fr : A.frames = X.A.frames) (hx : Passes CX X E)
    (I : Inv X pins σ H s) (r : Vals vs us) (h : sp vs H Q E) : wpAny (model X.prog X.w) A (call (.ref f) us) (EP X pins σ Q) X.xe s := by
  obtain ⟨_, fd, F, hb⟩ := F
  have e := I.env0
  have e0 : Env0 X.prog X.w X.K X.mg X.base A X.stack s H := ⟨fr.trans e.frames, e.mod, e.bs, e.bsz, e.funs, e.frf, e.hok, e.bare⟩
  have hul : us.length = ps.length := r.length.symm.trans (F.len _ _ _ _ h)
  refine wpAny_call (codeAny_mono (F.run A X.stack s H ⟨us, []⟩ us vs Q E hr e0 (by
    have := hb s us I.kIn (by simpa using hul)
    simpa using this) r h) fun q s' hq => ?_)
  cases q with
  | error er => exact hx pins σ H s er s' I hq
  | ok fl =>
    cases fl with
    | ret w => exact I.after hq
    | next => exact False.elim hq
    | brk => exact False.elim hq
    | cont => exact False.elim hq
theorem ins_at (I : Inv X pins σ H s) {a C dx : Addr} {fs : List (Str × V)} (h : H a = some (.ins C dx fs)) : ∃ ox od, PySem.W.InstAt s.heap a ox C (some od) := by
  obtain ⟨mA, J, _⟩ := ins_get I.hok h
  obtain ⟨od, J, _⟩ := J.look
  exact ⟨_, _, J⟩
end
section
variable {X : Cx} {CX : CXT} {k : Nat} {C f : Addr} {ps : List Str} {sp : Sp} {E : XK} {m : Str}
/-- x op y, both of the class at C, by its own def -/
def rBinOwn (C : Addr) (sp : Sp) (E : XK) : R2 := fun x y H Q => ∃ a b dx dy fs gs, x = .ref a ∧ y = .ref b ∧ H a = some (.ins C dx fs) ∧ H b = some (.ins C dy gs) ∧ sp [.ref a, .ref b] H Q E
theorem op_binOwn {op : Operator} (c : ClsF X.K C) (hm : Meth X.K C (PySem.dunder op.info.2) f) (F : MOk CX X.prog X.w X.K X.mg X.base k f ps sp) (hr : Room k X.A) (hx : Passes CX X E) : OpR X (binaryOp op) (rBinOwn C sp E) := by
  intro pins s σ H x y v u Q I rx ry h
  obtain ⟨a, b, dx, dy, fs, gs, rfl, rfl, ha, hb, q⟩ := h
  cases rx
  cases ry
  obtain ⟨oa, da, Ja⟩ := ins_at I ha
  obtain ⟨ob, db, Jb⟩ := ins_at I hb
  obtain ⟨mm, hF⟩ := I.fr
  exact PySem.W.binop_K hF I.ok.mod.kin Ja Jb.type c.sf hm.at_ hm.fn (thn (run_own (us := [.ref a, .ref b]) (vs := [.ref a, .ref b]) F hr rfl hx I (.cons rfl (.cons rfl .nil)) q) fun w s' ⟨z, H', I', rz, qz⟩ => back_of rz ⟨z, H', I', rz, qz⟩)
def rUnOwn (C : Addr) (sp : Sp) (E : XK) : V → Hp → VK → Prop := fun x H Q => ∃ a dx fs, x = .ref a ∧ H a = some (.ins C dx fs) ∧ sp [.ref a] H Q E
/-- -x by the class's own def -/
def tNegOwn (C : Addr) (sp : Sp) (E : XK) (te : TE) : TE := fun σ H Q => te σ H fun x H1 => rUnOwn C sp E x H1 Q
theorem un_negOwn (hm : Meth X.K C "__neg__" f) (F : MOk CX X.prog X.w X.K X.mg X.base k f ps sp) (hr : Room k X.A) (hx : Passes CX X E) : UnR X (unaryOp .USub) (rUnOwn C sp E) := by
  intro pins s σ H x v Q I rx h
  obtain ⟨a, dx, fs, rfl, ha, q⟩ := h
  cases rx
  obtain ⟨oa, da, Ja⟩ := ins_at I ha
  obtain ⟨mm, hF⟩ := I.fr
  exact PySem.W.ksp_neg hF I.ok.mod.kin Ja hm.at_ hm.fn (run_own (us := [.ref a]) (vs := [.ref a]) F hr rfl hx I (.cons rfl .nil) q)
/-- a value's type, where it is no instance -/
inductive TyN (H : Hp) : V → String → Prop where
  | non : TyN H .non "NoneType"
  | bl (x : Bool) : TyN H (.bl x) "bool"
  | int (i : Int) : TyN H (.int i) "int"
  | str (x : Str) : TyN H (.str x) "str"
  | lst {a : Addr} {xs : List V} (e : H a = some (.lst xs)) : TyN H (.ref a) "list"
  | tup {a : Addr} {xs : List V} (e : H a = some (.tup xs)) : TyN H (.ref a) "tuple"
theorem TyN.looks {pins : List (Addr × Obj)} {σ : L2.St} {H : Hp} {s : Shared} {y : V} {t : String} {u : Value} (h : TyN H y t) (I : Inv X pins σ H s) (r : RelV y u) : PySem.W.Looks (model X.prog X.w) s.heap (typeOf u) (.type t) := by
  cases h with
  | non => cases r; exact PySem.W.Looks.of_pure rfl
  | bl b => cases r; exact PySem.W.Looks.of_pure rfl
  | int i => obtain ⟨t, rfl⟩ := r; exact PySem.W.Looks.of_pure rfl
  | str x => obtain ⟨t, rfl⟩ := r; exact PySem.W.Looks.of_pure rfl
  | @lst a xs e =>
    cases r
    obtain ⟨_, _, n, _, h1⟩ := (show ObjOk X.prog X.w H s.heap a (.lst xs) from I.hok a _ e)
    exact (PySem.W.Looks.ld h1).andThen .now
  | @tup a xs e =>
    cases r
    obtain ⟨_, _, _, o, h1, h2, _⟩ := (show ObjOk X.prog X.w H s.heap a (.tup xs) from I.hok a _ e)
    have z : PySem.W.Looks (model X.prog X.w) s.heap (typeOf (.ref a)) o.cls := (PySem.W.Looks.ld h1).andThen .now
    rw [h2] at z
    exact z
/-- what stands on the right of ==: of the same class, or of a type that is none of its subclasses -/
def SideV (K : PySem.W.Frag) (C : Addr) (y : V) (H : Hp) : Prop := (∃ b dy gs, y = .ref b ∧ H b = some (.ins C dy gs)) ∨ ∃ t, TyN H y t ∧ PySem.W.subIn K (.type t) (.ref C) = some false
theorem side_ok {pins : List (Addr × Obj)} {σ : L2.St} {H : Hp} {s : Shared} {y : V} {u : Value} (I : Inv X pins σ H s) (r : RelV y u) (h : SideV X.K C y H) : ∃ tb, PySem.W.Looks (model X.prog X.w) s.heap (typeOf u) tb ∧ PySem.W.notFirst X.K C tb = true := by
  rcases h with ⟨b, dy, gs, rfl, hb⟩ | ⟨t, ht, hn⟩
  · cases r
    obtain ⟨ob, db, Jb⟩ := ins_at I hb
    exact ⟨_, Jb.type, by simp [PySem.W.notFirst]⟩
  · exact ⟨.type t, ht.looks I r, by unfold PySem.W.notFirst; rw [hn]; simp⟩
/-- x == y by the class's own __eq__ -/
def rEqOwn (K : PySem.W.Frag) (C : Addr) (sp : Sp) (E : XK) : R2 := fun x y H Q => ∃ a dx fs, x = .ref a ∧ H a = some (.ins C dx fs) ∧ SideV K C y H ∧ sp [.ref a, y] H Q E
theorem op_eqOwn (hm : Meth X.K C "__eq__" f) (F : MOk CX X.prog X.w X.K X.mg X.base k f ps sp) (hr : Room k X.A) (hx : Passes CX X E) : OpR X (compareOp .Eq) (rEqOwn X.K C sp E) := by
  intro pins s σ H x y v u Q I rx ry h
  obtain ⟨a, dx, fs, rfl, ha, hy, q⟩ := h
  cases rx
  obtain ⟨oa, da, Ja⟩ := ins_at I ha
  obtain ⟨mm, hF⟩ := I.fr
  obtain ⟨tb, lt, nf⟩ := side_ok I ry hy
  show wpAny (model X.prog X.w) X.A (richCompare .Eq (.ref a) u) (EP X pins σ Q) X.xe s
  exact PySem.W.cmp_K (op := .Eq) hr.units0 hF I.ok.mod.kin Ja lt nf hm.at_ hm.fn (thn (run_own (us := [.ref a, u]) (vs := [.ref a, y]) F hr rfl hx I (.cons rfl (.cons ry .nil)) q) fun w s' ⟨z, H', I', rz, qz⟩ => back_of rz ⟨z, H', I', rz, qz⟩)
/-- x != y where the class has an own __eq__ alone, which gives True or False -/
def rNeOwn (K : PySem.W.Frag) (C : Addr) (sp : Sp) (E : XK) : R2 := fun x y H Q => ∃ a dx fs, x = .ref a ∧ H a = some (.ins C dx fs) ∧ SideV K C y H ∧ sp [.ref a, y] H (fun z H' => ∃ b, z = .bl b ∧ Q (.bl (!b)) H') E
theorem ifBound_blt {M : Model} {A : Around} {E : Value → Shared → Prop} {s : Shared} {K : PySem.W.Frag} {x C : Addr} {ox : Obj} {od : Option Obj} {name : Str} {id : String} {args : List Value} {Q : Option Value → Shared → Prop} (Y : K.In s.heap) (I : PySem.W.InstAt s.heap x ox C od)
    (hs : PySem.W.findIn K (.ref C) name = some (some (.builtin id))) (hb : ∀ self, bindSpecial (.builtin id) self = pure (.builtin id, [self])) (h : wpAny M A (call (.builtin id) (.ref x :: args)) (fun v => Q (some v)) E s) : wpAny M A (callSpecialIfBound? (.ref x) name args) Q E s := by
  simp only [callSpecialIfBound?, bindSpecialIfBound?]
  refine wpAny_holding (wpAny_bind (wpAny_bind (wpAny_bind (I.type.here ((PySem.W.looks_findIn Y hs).here ?_)))))
  simp only [hb]
  refine wpAny_bind (wpAny_askSetting (wpAny_ite ?_))
  have fin : wpAny M A (call (.builtin id) ([.ref x] ++ args) >>= fun v => pure (some v)) Q E s := wpAny_bind (wpAny_mono h (fun v s' h' => wpAny_pure h') fun _ _ h' => h')
  split
  · exact wpAny_bind (wpAny_pure (wpAny_pure fin))
  · exact wpAny_tryCatch (wpAny_bind (wpAny_pure (wpAny_pure fin)))
theorem op_neOwn (hn : PySem.W.findIn X.K (.ref C) "__ne__" = some (some (.builtin "object.__ne__"))) (ho : PySem.W.mroIn X.K C (.type "object") = some true) (hm : Meth X.K C "__eq__" f) (F : MOk CX X.prog X.w X.K X.mg X.base k f ps sp) (hr : Room (k + 1) X.A) (hx : Passes CX X E) : OpR X (compareOp .NotEq) (rNeOwn X.K C sp E) := by
  intro pins s σ H x y v u Q I rx ry h
  obtain ⟨a, dx, fs, rfl, ha, hy, q⟩ := h
  cases rx
  obtain ⟨oa, da, Ja⟩ := ins_at I ha
  obtain ⟨tb, lt, nf⟩ := side_ok I ry hy
  have hu : X.A.in1.units < cLine := by
    have := hr.un
    show X.A.units + 1 < cLine
    omega
  have body : wpAny (model X.prog X.w) X.A.in1 (Builtin.«object.__ne__» ⟨[.ref a, u], []⟩) (fun fin s' => ∃ b, fin = .done (.ret (.bool b)) ∧ EP X pins σ Q (.bool b) s') X.xe s := by
    unfold Builtin.«object.__ne__»
    refine wpAny_bind (m := slotArgs "__ne__" 1 _) (wpAny_pure ?_)
    refine wpAny_bind (wpAny_cRoomFor hu ?_)
    refine wpAny_bind (m := callSpecialIfBound? (.ref a) (Str.ofString "__eq__") [u]) (PySem.W.ifBound_K I.kIn Ja hm.at_ hm.fn (thn (run_own (A := X.A.in1) (us := [.ref a, u]) (vs := [.ref a, y]) F hr.in1 rfl hx I (.cons rfl (.cons ry .nil)) q) fun w s' ⟨z, H', I', rz, b, ez, qz⟩ => ?_))
    subst ez
    obtain rfl : w = Value.bool b := rz
    refine wpAny_bind (m := truthy (.bool b)) (wpAny_truthy_bool ?_)
    exact wpAny_pure ⟨_, rfl, .bl (!b), H', I', rfl, qz⟩
  have one : wpAny (model X.prog X.w) X.A (tryCompare (.ref a) (cmpInfo .NotEq).2.1 u) (fun r s' => ∃ b, r = some (.bool b) ∧ EP X pins σ Q (.bool b) s') X.xe s := by
    unfold tryCompare
    refine wpAny_bind (ifBound_blt (name := (cmpInfo .NotEq).2.1) I.kIn Ja hn (fun self => by first | rfl | simp [bindSpecial]) (wpAny_call (codeAny_call_builtin (by decide +kernel) PySem.F.cmpEntry_ne ?_)))
    refine PySem.W.check_slot PySem.F.cmpKind_ne PySem.F.cmpSplit_ne (Ja.type.andThen (PySem.W.looks_mroIn I.kIn ho)) (PySem.F.cmpArgs_ne _ _) (thn body fun fin s' hb => ?_)
    obtain ⟨b, rfl, q⟩ := hb
    exact wpAny_pure ⟨b, rfl, q⟩
  show wpAny (model X.prog X.w) X.A (richCompare .NotEq (.ref a) u) (EP X pins σ Q) X.xe s
  unfold richCompare
  simp only [oneThing_ref]
  refine wpAny_holding (wpAny_bind (wpAny_cRoomFor hr.units0 ?_))
  refine wpAny_bind (Ja.type.here (wpAny_bind (lt.here ?_)))
  split
  · rename_i q
    have e : PySem.W.subIn X.K tb (.ref C) = some false := by
      rcases Bool.or_eq_true_iff.mp nf with e | e
      · rw [beq_iff_eq.mp e] at q
        simp at q
      · exact beq_iff_eq.mp e
    refine wpAny_bind ((PySem.W.looks_subIn I.kIn e).here ?_)
    simp only [Bool.false_eq_true, if_false]
    refine wpAny_bind (thn one fun r s' hb => ?_)
    obtain ⟨b, rfl, q⟩ := hb
    exact wpAny_pure q
  · refine wpAny_bind (wpAny_pure ?_)
    simp only [Bool.false_eq_true, if_false]
    refine wpAny_bind (thn one fun r s' hb => ?_)
    obtain ⟨b, rfl, q⟩ := hb
    exact wpAny_pure q
/-- truth by the class's own __bool__ -/
def tTruOwn (C : Addr) (sp : Sp) (E : XK) (te : TE) : TT := fun σ H Q => te σ H fun x H1 => ∃ a dx fs, x = .ref a ∧ H1 a = some (.ins C dx fs) ∧ sp [.ref a] H1 (fun z H' => ∃ b, z = .bl b ∧ Q b H') E
end
end CT

/-! A class of one's own: made, its methods called, its properties read; truth, length, text. -/
namespace CT
open PySem PySem.Spec PySem.Calls PyProof.Rows L2 He
section
variable {X : Cx} {CX : CXT} {k : Nat} {C f g : Addr} {ps : List Str} {sp : Sp} {E : XK} {x m : Str} {p pos apos : Pos} {e o : Expr} {es : List Expr} {t : TA} {ta : TE}
theorem MOk.binds {P : Program} {w : World} {K : PySem.W.Frag} {mg : Str → Option Value} {base : Heap} {a : Addr} (F : MOk CX P w K mg base k a ps sp) : ∃ fd, FnOk P w K mg base CX k a fd ps sp ∧ L2.Binds K fd ps [] := F.2
/-- C(e, ..) -/
theorem pe_makeM (M : Mk X.K C f) (F : MOk CX X.prog X.w X.K X.mg X.base k f ps sp) (hx : Passes CX X E) (hr : Room (k + 1) X.A) (hm : X.mg x = some (.ref C)) (ha : PA X (e :: es) t) (hg : Gl X x := by rfl) (hdb : (x == ("__debug__" : Str)) = false := by decide)
    (he : starEach (e :: es) X.env = (false, eval e X.env) :: starEach es X.env := by rfl) (hpl : (backTo pos (starEach es X.env)).any (·.1) = false := by rfl) : PE X (.Call (.Name x p) (e :: es) [] pos) (tMake C sp [] E t) := by
  obtain ⟨fd, F, b⟩ := F.binds
  exact pe_make M F hr hg hm b .nil hx ha hdb he hpl
/-- o.m(e, ..) -/
theorem pe_methM {pl : Sem Bool} (he : PE X o ta) (c : Cls X.K C) (hm : Meth X.K C m g) (F : MOk CX X.prog X.w X.K X.mg X.base k g ps sp) (hx : Passes CX X E) (hr : Room k X.A) (ha : PA X (e :: es) t)
    (hst : starEach (e :: es) X.env = (false, eval e X.env) :: starEach es X.env := by rfl) (hpl : (backTo pos (starEach es X.env)).any (·.1) = false := by rfl)
    (ht : eval (.Call (.Attribute o m apos) (e :: es) [] pos) X.env = (do
      let ov ← eval o X.env
      standAt apos.atName
      let (f, first) ← holding [ov] (getMethod ov m pl)
      callWith pos f first (backTo pos (starEach (e :: es) X.env)) (backToKw pos (keywordEach [] X.env))) := by rfl) :
    PE X (.Call (.Attribute o m apos) (e :: es) [] pos) (tMeth C m sp [] E ta t) := by
  obtain ⟨fd, F, b⟩ := F.binds
  exact pe_meth he c hm F hr b .nil hx ha hst hpl ht
/-- o.m() -/
theorem pe_methM0 {pl : Sem Bool} (he : PE X o ta) (c : Cls X.K C) (hm : Meth X.K C m g) (F : MOk CX X.prog X.w X.K X.mg X.base k g ps sp) (hx : Passes CX X E) (hr : Room k X.A)
    (ht : eval (.Call (.Attribute o m apos) [] [] pos) X.env = (do
      let ov ← eval o X.env
      standAt apos.atName
      let (f, first) ← holding [ov] (getMethod ov m pl)
      callWith pos f first (backTo pos (starEach [] X.env)) (backToKw pos (keywordEach [] X.env))) := by rfl) :
    PE X (.Call (.Attribute o m apos) [] [] pos) (tMeth C m sp [] E ta tNil) := by
  obtain ⟨fd, F, b⟩ := F.binds
  exact pe_meth0 he c hm F hr b .nil hx ht
/-- e.f, a property -/
theorem pe_propM (he : PE X e ta) (c : Cls X.K C) (hp : PropOf X.K C m p' g) (F : MOk CX X.prog X.w X.K X.mg X.base k g ps sp) (hx : Passes CX X.nox E) (hr : Room (k + 1) X.A) (hab : attributeBase e m X.env (eval e X.env) = eval e X.env := by rfl) :
    PE X (.Attribute e m pos) (tProp C sp [] E ta) := by
  obtain ⟨fd, F, b⟩ := F.binds
  exact pe_prop he c hp F hr b .nil hx hab
/-- truth by the class's own __bool__ -/
def rTruOwn (C : Addr) (sp : Sp) (E : XK) : V → Hp → (Bool → Hp → Prop) → Prop := fun x H Q => ∃ a dx fs, x = .ref a ∧ H a = some (.ins C dx fs) ∧ sp [.ref a] H (fun z H' => ∃ b, z = .bl b ∧ Q b H') E
theorem tr_own (hm : Meth X.K C "__bool__" f) (F : MOk CX X.prog X.w X.K X.mg X.base k f ps sp) (hx : Passes CX X E) (hr : Room k X.A) : TruR X (rTruOwn C sp E) := by
  intro pins s σ H x v Q I rx h
  obtain ⟨a, dx, fs, rfl, ha, q⟩ := h
  cases rx
  obtain ⟨oa, da, Ja⟩ := ins_at I ha
  obtain ⟨mm, hF⟩ := I.fr
  refine PySem.W.truthy_K hF I.ok.mod.kin Ja hm.at_ hm.fn (thn (run_own (us := [.ref a]) (vs := [.ref a]) F hr rfl hx I (.cons rfl .nil) q) fun w s' ⟨z, H', I', rz, b, ez, qz⟩ => ?_)
  subst ez
  obtain rfl : w = Value.bool b := rz
  exact ⟨H', I', qz⟩
/-- len by the class's own __len__ -/
def rLenOwn (C : Addr) (sp : Sp) (E : XK) : List V → Hp → VK → Prop := fun xs H Q => ∃ a dx fs, xs = [.ref a] ∧ H a = some (.ins C dx fs) ∧ sp [.ref a] H (fun z H' => ∃ i : Int, z = .int i ∧ 0 ≤ i ∧ i < 2 ^ 63 ∧ Q (.int i) H') E
theorem call_lenOwn (hm : Meth X.K C "__len__" f) (F : MOk CX X.prog X.w X.K X.mg X.base k f ps sp) (hx : Passes CX X E) (hr : Room (k + 1) X.A) : CallR X (.builtin "len") (rLenOwn C sp E) := by
  intro pins s σ H xs us Q I rs h
  obtain ⟨a, dx, fs, rfl, ha, q⟩ := h
  cases rs with
  | cons rx rs =>
    cases rs
    cases rx
    obtain ⟨oa, da, Ja⟩ := ins_at I ha
    obtain ⟨mm, hF⟩ := I.fr
    refine PySem.W.len_K hF I.ok.mod.kin Ja hm.at_ hm.fn (thn (run_own (A := X.A.in1) (us := [.ref a]) (vs := [.ref a]) F hr.in1 rfl hx I (.cons rfl .nil) q) fun w s' ⟨z, H', I', rz, i, ez, i0, i1, qz⟩ => ?_)
    subst ez
    obtain ⟨t, rfl⟩ := (show ∃ t, w = Value.int i t from rz)
    exact ⟨⟨i0, i1⟩, .int i, H', I'.tok _, ⟨_, rfl⟩, qz⟩
/-- repr by the class's own __repr__ -/
def rReprOwn (C : Addr) (sp : Sp) (E : XK) : List V → Hp → VK → Prop := fun xs H Q => ∃ a dx fs, xs = [.ref a] ∧ H a = some (.ins C dx fs) ∧ sp [.ref a] H (fun z H' => ∃ y : Str, z = .str y ∧ Q (.str y) H') E
theorem call_reprOwn (hm : Meth X.K C "__repr__" f) (F : MOk CX X.prog X.w X.K X.mg X.base k f ps sp) (hx : Passes CX X E) (hr : Room (k + 1) X.A) : CallR X (.builtin "repr") (rReprOwn C sp E) := by
  intro pins s σ H xs us Q I rs h
  obtain ⟨a, dx, fs, rfl, ha, q⟩ := h
  cases rs with
  | cons rx rs =>
    cases rs
    cases rx
    obtain ⟨oa, da, Ja⟩ := ins_at I ha
    obtain ⟨mm, hF⟩ := I.fr
    have hu : X.A.in1.units < cLine := by
      have := hr.un
      show X.A.units + 1 < cLine
      omega
    refine PySem.W.repr_K hu hF I.ok.mod.kin Ja hm.at_ hm.fn (thn (run_own (A := X.A.in1) (us := [.ref a]) (vs := [.ref a]) F hr.in1 rfl hx I (.cons rfl .nil) q) fun w s' ⟨z, H', I', rz, y, ez, qz⟩ => ?_)
    subst ez
    obtain ⟨t, rfl⟩ := (show ∃ t, w = Value.str y t from rz)
    exact ⟨.str y, H', I', ⟨_, rfl⟩, qz⟩
/-- C.m(e, ..), m a static method -/
def tStat (C : Addr) (sp : Sp) (E : XK) (ta : TE) (t : TA) : TE := fun σ H Q => ta σ H fun x H1 => x = .ref C ∧ t σ H1 fun vs H2 => sp vs H2 Q E
theorem pe_statM {pl : Sem Bool} (he : PE X o ta) (c : ClsF X.K C) (S : StatF X.K C m) (F : MOk CX X.prog X.w X.K X.mg X.base k (He5.wf X.K C "staticmethod" m) ps sp) (hx : Passes CX X E) (hr : Room k X.A) (ha : PA X (e :: es) t)
    (hst : starEach (e :: es) X.env = (false, eval e X.env) :: starEach es X.env := by rfl) (hpl : (backTo pos (starEach es X.env)).any (·.1) = false := by rfl)
    (ht : eval (.Call (.Attribute o m apos) (e :: es) [] pos) X.env = (do
      let ov ← eval o X.env
      standAt apos.atName
      let (f, first) ← holding [ov] (getMethod ov m pl)
      callWith pos f first (backTo pos (starEach (e :: es) X.env)) (backToKw pos (keywordEach [] X.env))) := by rfl) :
    PE X (.Call (.Attribute o m apos) (e :: es) [] pos) (tStat C sp E ta t) := by
  refine ⟨fun pins s σ H Q I h => ?_⟩
  refine PySem.W.methodCall_KW (pl := pl) (thn (he.run pins s σ H _ I h) fun u s1 ⟨x, H1, I1, rx, ex, q⟩ => ?_) ht
  subst ex
  obtain rfl : u = Value.ref C := rx
  obtain ⟨rest, hp⟩ := S.rc
  refine PySem.W.method_cls I1.kIn c.read.ga (PySem.W.cls_bind I1.kIn c.read.rd S.at_ ?_)
  refine wpAny_call (PySem.W.sm_get (s := { s1 with toks := s1.toks + 1 }) I1.kIn hp (PySem.W.handed_on rfl ?_))
  have I2 := I1.tok (s1.toks + 1)
  refine PySem.W.callWith_K (first := []) (h₀ := X.base) I2.ok.mod.kin F.1 (thn (ha.run pos pins _ σ H1 _ I2 q) fun us s2 ⟨vs, H2, I3, r, q2⟩ => ⟨I3.kIn, ?_⟩) hst hpl
  exact run_own F hr rfl hx I3 r q2
end
end CT

/-! Tables of terms on the heap: dicts from tuples of integers to fractions; rows as they are passed. -/
namespace CT
open PySem PySem.Spec PySem.Calls PyProof.Rows L2 He
/-- the fraction q at p -/
def Qt (K : PySem.W.Frag) (H : Hp) (p : Addr) (q : Rat) : Prop := SqT K H p [.int q.num, .int (q.den : Int)]
/-- what tuples are known stays known -/
def TK (K : PySem.W.Frag) (H H' : Hp) : Prop := ∀ b xs, SqT K H b xs → SqT K H' b xs
theorem TK.refl {K : PySem.W.Frag} {H : Hp} : TK K H H := fun _ _ h => h
theorem TK.trans {K : PySem.W.Frag} {H H1 H2 : Hp} (a : TK K H H1) (b : TK K H1 H2) : TK K H H2 := fun _ _ h => b _ _ (a _ _ h)
theorem TK.same {K : PySem.W.Frag} {H H' : Hp} (e : Same H H') : TK K H H' := fun _ _ h => same_sqT e h
theorem TK.ext {K : PySem.W.Frag} {H H' : Hp} (e : LamX.ExtN H H') : TK K H H' := fun _ _ h => sqT_ext e h
theorem TK.but {K : PySem.W.Frag} {H H' : Hp} {p : Addr} {u : HO} (hp : H p = some u) (n1 : ∀ xs, u ≠ .tup xs) (n2 : ∀ o xs, u ≠ .frz o (.tup xs)) (e : ∀ b o, b ≠ p → H b = some o → H' b = some o) : TK K H H' := fun b xs h => by
  rcases h with (h | ⟨o, h⟩) | h
  · exact .inl (.inl (e _ _ (ne_of h hp fun z => n1 xs z.symm) h))
  · exact .inl (.inr ⟨o, e _ _ (ne_of h hp fun z => n2 o xs z.symm) h⟩)
  · exact .inr h
theorem TK.upd {K : PySem.W.Frag} {H : Hp} {p : Addr} {u x : HO} (hp : H p = some u) (n1 : ∀ xs, u ≠ .tup xs) (n2 : ∀ o xs, u ≠ .frz o (.tup xs)) : TK K H (upd H p x) := TK.but hp n1 n2 fun b o hb h => by
  rw [upd_ne hb]
  exact h
theorem TK.new {K : PySem.W.Frag} {H : Hp} {p : Addr} {x : HO} (hp : H p = none) : TK K H (L2.upd H p x) := TK.same (same_new hp)
/-- an entry as the dict has it -/
def ent (p : Mono × Addr) : List L2.Key × V := (kI p.1, .ref p.2)
inductive Ents (K : PySem.W.Frag) (H : Hp) : List (Mono × Addr) → Tab → Prop
  | nil : Ents K H [] []
  | cons {k : Mono} {a : Addr} {q : Rat} {l : List (Mono × Addr)} {P : Tab} (h : Qt K H a q) (t : Ents K H l P) : Ents K H ((k, a) :: l) ((k, q) :: P)
theorem Ents.keep {K : PySem.W.Frag} {H H' : Hp} (k : TK K H H') {l : List (Mono × Addr)} {P : Tab} (h : Ents K H l P) : Ents K H' l P := by
  induction h with
  | nil => exact .nil
  | cons h _ ih => exact .cons (k _ _ h) ih
theorem Ents.keys {K : PySem.W.Frag} {H : Hp} {l : List (Mono × Addr)} {P : Tab} (h : Ents K H l P) : l.map Prod.fst = keysT P := by
  induction h with
  | nil => rfl
  | cons h _ ih =>
    unfold keysT at ih ⊢
    rw [List.map_cons, List.map_cons, ih]
theorem Ents.length {K : PySem.W.Frag} {H : Hp} {l : List (Mono × Addr)} {P : Tab} (h : Ents K H l P) : l.length = P.length := by
  have := congrArg List.length h.keys
  unfold keysT at this
  rw [List.length_map, List.length_map] at this
  exact this
theorem Ents.app {K : PySem.W.Frag} {H : Hp} {l m : List (Mono × Addr)} {P R : Tab} (h : Ents K H l P) (g : Ents K H m R) : Ents K H (l ++ m) (P ++ R) := by
  induction h with
  | nil => exact g
  | cons h _ ih => exact .cons h ih
theorem Ents.get {K : PySem.W.Frag} {H : Hp} {l : List (Mono × Addr)} {P : Tab} (h : Ents K H l P) (k : Mono) : (k ∈ keysT P → ∃ a, valV (l.map ent) (kI k) = some (.ref a) ∧ Qt K H a (gt P k)) ∧ (k ∉ keysT P → valV (l.map ent) (kI k) = none) := by
  induction h with
  | nil => exact ⟨(fun z => by cases z), fun _ => rfl⟩
  | @cons k' a q l P h t ih =>
    rw [List.map_cons]
    by_cases e : k' = k
    · subst e
      refine ⟨fun _ => ⟨a, valV_pos rfl, ?_⟩, fun z => absurd (List.Mem.head _) z⟩
      show Qt K H a (if k' = k' then q else gt P k')
      rw [if_pos rfl]
      exact h
    · have e2 : ¬ (ent (k', a)).1 = kI k := fun z => e (kI_inj z)
      rw [valV_neg e2]
      have hm : k ∈ keysT ((k', q) :: P) ↔ k ∈ keysT P := by
        unfold keysT
        rw [List.map_cons, List.mem_cons]
        exact ⟨fun z => z.elim (fun z => absurd z.symm e) id, .inr⟩
      rw [hm]
      have eg : gt ((k', q) :: P) k = gt P k := by
        show (if k' = k then q else gt P k) = gt P k
        rw [if_neg e]
      rw [eg]
      exact ih
theorem Ents.at {K : PySem.W.Frag} {H : Hp} {l : List (Mono × Addr)} {P : Tab} (h : Ents K H l P) : ∀ {j : Nat} {p : Mono × Addr}, l[j]? = some p → ∃ q, P[j]? = some (p.1, q) ∧ Qt K H p.2 q := by
  induction h with
  | nil => intro j p e; simp at e
  | @cons k a q l P h t ih =>
    intro j p e
    cases j with
    | zero =>
      obtain rfl : (k, a) = p := by simpa using e
      exact ⟨q, rfl, h⟩
    | succ j =>
      obtain ⟨q', e1, e2⟩ := ih (j := j) (p := p) (by simpa using e)
      exact ⟨q', by simpa using e1, e2⟩
def putE (l : List (Mono × Addr)) (k : Mono) (a : Addr) : List (Mono × Addr) := if k ∈ l.map Prod.fst then l.map (fun p => if p.1 = k then (p.1, a) else p) else l ++ [(k, a)]
theorem putE_ent (l : List (Mono × Addr)) (k : Mono) (a : Addr) : putK (l.map ent) (kI k) (.ref a) = (putE l k a).map ent := by
  unfold putK putE
  have e : (l.map ent).any (fun kv => decide (kv.1 = kI k)) = true ↔ k ∈ l.map Prod.fst := by
    rw [List.any_eq_true, List.mem_map]
    constructor
    · rintro ⟨x, hx, e⟩
      obtain ⟨p, hp, rfl⟩ := List.mem_map.mp hx
      exact ⟨p, hp, kI_inj (of_decide_eq_true e)⟩
    · rintro ⟨p, hp, rfl⟩
      exact ⟨ent p, List.mem_map_of_mem hp, decide_eq_true rfl⟩
  by_cases h : k ∈ l.map Prod.fst
  · rw [if_pos h, if_pos (e.mpr h), List.map_map, List.map_map]
    refine List.map_congr_left fun p _ => ?_
    show (if kI p.1 = kI k then ((ent p).1, V.ref a) else ent p) = ent (if p.1 = k then (p.1, a) else p)
    by_cases q : p.1 = k
    · rw [if_pos q, if_pos (by rw [q])]
      rfl
    · rw [if_neg q, if_neg fun z => q (kI_inj z)]
  · rw [if_neg h, if_neg fun z => h (e.mp z), List.map_append]
    rfl
theorem Ents.putq {K : PySem.W.Frag} {H : Hp} {l : List (Mono × Addr)} {P : Tab} (h : Ents K H l P) (k : Mono) {a : Addr} {q : Rat} (hq : Qt K H a q) : Ents K H (putE l k a) (put P k q) := by
  unfold putE put
  rw [h.keys]
  split
  · rename_i hk
    clear hk
    induction h with
    | nil => exact .nil
    | @cons k' a' q' l P h t ih =>
      rw [List.map_cons, List.map_cons]
      by_cases e : k' = k
      · simp only [e, if_true]
        exact .cons hq ih
      · simp only [e, if_false]
        exact .cons h ih
  · exact h.app (.cons hq .nil)
def delE (l : List (Mono × Addr)) (k : Mono) : List (Mono × Addr) := l.filter fun p => decide (p.1 ≠ k)
def delT (P : Tab) (k : Mono) : Tab := P.filter fun t => decide (t.1 ≠ k)
theorem delE_ent (l : List (Mono × Addr)) (k : Mono) : dropK (l.map ent) (kI k) = (delE l k).map ent := by
  unfold dropK delE
  rw [List.filter_map]
  refine congrArg (List.map ent) (List.filter_congr fun p _ => ?_)
  show decide (kI p.1 ≠ kI k) = decide (p.1 ≠ k)
  rw [decide_eq_decide]
  exact ⟨fun z e => z (by rw [e]), fun z e => z (kI_inj e)⟩
theorem Ents.delq {K : PySem.W.Frag} {H : Hp} {l : List (Mono × Addr)} {P : Tab} (h : Ents K H l P) (k : Mono) : Ents K H (delE l k) (delT P k) := by
  induction h with
  | nil => exact .nil
  | @cons k' a' q' l P h t ih =>
    unfold delE delT
    by_cases e : k' = k
    · rw [List.filter_cons_of_neg (by simp [e]), List.filter_cons_of_neg (by simp [e])]
      exact ih
    · rw [List.filter_cons_of_pos (by simp [e]), List.filter_cons_of_pos (by simp [e])]
      exact .cons h ih
/-- the table P at d -/
def TabAt (K : PySem.W.Frag) (H : Hp) (d : Addr) (P : Tab) : Prop := ∃ l, H d = some (.dT (l.map ent)) ∧ Ents K H l P
theorem TabAt.keep {K : PySem.W.Frag} {H H' : Hp} {d : Addr} {P : Tab} (h : TabAt K H d P) (e : ∀ o, H d = some o → H' d = some o) (k : TK K H H') : TabAt K H' d P := by
  obtain ⟨l, h1, h2⟩ := h
  exact ⟨l, e _ h1, h2.keep k⟩
theorem TabAt.same {K : PySem.W.Frag} {H H' : Hp} {d : Addr} {P : Tab} (h : TabAt K H d P) (e : Same H H') : TabAt K H' d P := h.keep (fun _ z => e _ _ z) (TK.same e)
theorem TabAt.ext {K : PySem.W.Frag} {H H' : Hp} {d : Addr} {P : Tab} (h : TabAt K H d P) (e : LamX.ExtN H H') : TabAt K H' d P := by
  obtain ⟨l, h1, h2⟩ := h
  exact ⟨l, e _ _ h1 (fun _ z => by cases z), h2.keep (TK.ext e)⟩
/-! ### rows as they are passed -/
abbrev Raw := List Int × Int × Int
def RowAt (K : PySem.W.Frag) (H : Hp) (t : Addr) (r : Raw) : Prop := ∃ p v, SqT K H t [.ref p, .ref v] ∧ H p = some (.tup (r.1.map V.int)) ∧ SqT K H v [.int r.2.1, .int r.2.2]
inductive RowsAt (K : PySem.W.Frag) (H : Hp) : List Addr → List Raw → Prop
  | nil : RowsAt K H [] []
  | cons {t : Addr} {r : Raw} {l : List Addr} {rs : List Raw} (h : RowAt K H t r) (t' : RowsAt K H l rs) : RowsAt K H (t :: l) (r :: rs)
/-- plain tuples and what tuples are known stay -/
def TK2 (K : PySem.W.Frag) (H H' : Hp) : Prop := TK K H H' ∧ ∀ b xs, H b = some (.tup xs) → H' b = some (.tup xs)
theorem TK2.refl {K : PySem.W.Frag} {H : Hp} : TK2 K H H := ⟨TK.refl, fun _ _ h => h⟩
theorem TK2.trans {K : PySem.W.Frag} {H H1 H2 : Hp} (a : TK2 K H H1) (b : TK2 K H1 H2) : TK2 K H H2 := ⟨a.1.trans b.1, fun _ _ h => b.2 _ _ (a.2 _ _ h)⟩
theorem TK2.same {K : PySem.W.Frag} {H H' : Hp} (e : Same H H') : TK2 K H H' := ⟨TK.same e, fun _ _ h => e _ _ h⟩
theorem TK2.ext {K : PySem.W.Frag} {H H' : Hp} (e : LamX.ExtN H H') : TK2 K H H' := ⟨TK.ext e, fun _ _ h => e _ _ h fun _ z => by cases z⟩
theorem TK2.but {K : PySem.W.Frag} {H H' : Hp} {p : Addr} {u : HO} (hp : H p = some u) (n1 : ∀ xs, u ≠ .tup xs) (n2 : ∀ o xs, u ≠ .frz o (.tup xs)) (e : ∀ b o, b ≠ p → H b = some o → H' b = some o) : TK2 K H H' := ⟨TK.but hp n1 n2 e, fun b xs h => e _ _ (ne_of h hp fun z => n1 xs z.symm) h⟩
theorem TK2.upd {K : PySem.W.Frag} {H : Hp} {p : Addr} {u x : HO} (hp : H p = some u) (n1 : ∀ xs, u ≠ .tup xs) (n2 : ∀ o xs, u ≠ .frz o (.tup xs)) : TK2 K H (L2.upd H p x) := TK2.but hp n1 n2 fun b o hb h => by
  rw [upd_ne hb]
  exact h
theorem RowAt.keep {K : PySem.W.Frag} {H H' : Hp} (k : TK2 K H H') {t : Addr} {r : Raw} (h : RowAt K H t r) : RowAt K H' t r := by
  obtain ⟨p, v, h1, h2, h3⟩ := h
  exact ⟨p, v, k.1 _ _ h1, k.2 _ _ h2, k.1 _ _ h3⟩
theorem RowsAt.keep {K : PySem.W.Frag} {H H' : Hp} (k : TK2 K H H') {l : List Addr} {rs : List Raw} (h : RowsAt K H l rs) : RowsAt K H' l rs := by
  induction h with
  | nil => exact .nil
  | cons h _ ih => exact .cons (h.keep k) ih
theorem RowsAt.length {K : PySem.W.Frag} {H : Hp} {l : List Addr} {rs : List Raw} (h : RowsAt K H l rs) : l.length = rs.length := by
  induction h with
  | nil => rfl
  | cons h _ ih => rw [List.length_cons, List.length_cons, ih]
theorem RowsAt.app {K : PySem.W.Frag} {H : Hp} {l m : List Addr} {rs ss : List Raw} (h : RowsAt K H l rs) (g : RowsAt K H m ss) : RowsAt K H (l ++ m) (rs ++ ss) := by
  induction h with
  | nil => exact g
  | cons h _ ih => exact .cons h ih
theorem RowsAt.at {K : PySem.W.Frag} {H : Hp} {l : List Addr} {rs : List Raw} (h : RowsAt K H l rs) : ∀ {j : Nat} {t : Addr}, l[j]? = some t → ∃ r, rs[j]? = some r ∧ RowAt K H t r := by
  induction h with
  | nil => intro j p e; simp at e
  | @cons t' r l rs h g ih =>
    intro j p e
    cases j with
    | zero =>
      obtain rfl : t' = p := by simpa using e
      exact ⟨r, rfl, h⟩
    | succ j =>
      obtain ⟨q', e1, e2⟩ := ih (j := j) (t := p) (by simpa using e)
      exact ⟨q', by simpa using e1, e2⟩
theorem RowsAt.at' {K : PySem.W.Frag} {H : Hp} {l : List Addr} {rs : List Raw} (h : RowsAt K H l rs) {j : Nat} {r : Raw} (e : rs[j]? = some r) : ∃ t, l[j]? = some t ∧ RowAt K H t r := by
  have hl : j < l.length := by
    rw [h.length]
    exact (List.getElem?_eq_some_iff.mp e).1
  obtain ⟨r', e1, e2⟩ := h.at (List.getElem?_eq_getElem hl)
  rw [e] at e1
  cases e1
  exact ⟨_, List.getElem?_eq_getElem hl, e2⟩
theorem RowsAt.of_at {K : PySem.W.Frag} {H : Hp} : ∀ {l : List Addr} {rs : List Raw}, l.length = rs.length → (∀ (j : Nat) (t : Addr), l[j]? = some t → ∃ r, rs[j]? = some r ∧ RowAt K H t r) → RowsAt K H l rs
  | [], [], _, _ => .nil
  | [], _ :: _, h, _ => by cases h
  | _ :: _, [], h, _ => by cases h
  | t :: l, r :: rs, h, g => by
    obtain ⟨r', e, hr⟩ := g 0 t rfl
    cases e
    exact .cons hr (RowsAt.of_at (Nat.succ.inj h) fun j t' e => by simpa using g (j + 1) t' (by simpa using e))
theorem RowsAt.set {K : PySem.W.Frag} {H : Hp} {l : List Addr} {rs : List Raw} (h : RowsAt K H l rs) {t : Addr} {r : Raw} (g : RowAt K H t r) : ∀ n : Nat, RowsAt K H (l.set n t) (rs.set n r) := by
  induction h with
  | nil => exact fun n => by simp; exact .nil
  | cons h t' ih =>
    intro n
    cases n with
    | zero => exact .cons g t'
    | succ n => exact .cons h (ih n)
/-- a row that may stand in a polynomial in n unknowns -/
def okRow (n : Int) (r : Raw) : Bool := decide ((r.1.length : Int) = n) && (r.1.all fun e => decide (0 ≤ e)) && decide (r.2.1 ≠ 0) && (decide (0 < r.2.2) && decide (Int.gcd r.2.1 r.2.2 = 1))
def goodAt (n : Int) (rs : List Raw) (i : Nat) : Bool := match rs[i]? with
  | some r => okRow n r && decide (r.1 ∉ (rs.take i).map Prod.fst)
  | none => false
def rawTab (rs : List Raw) : Tab := rs.map fun r => (r.1, Rat.divInt r.2.1 r.2.2)
def rawOf (P : Tab) : List Raw := P.map fun t => (t.1, t.2.num, (t.2.den : Int))
theorem rawTab_of (P : Tab) : rawTab (rawOf P) = P := by
  unfold rawTab rawOf
  rw [List.map_map]
  conv => rhs; rw [← List.map_id P]
  refine List.map_congr_left fun t _ => ?_
  show (t.1, Rat.divInt t.2.num (t.2.den : Int)) = t
  rw [rat_self]
theorem keys_rawTab (rs : List Raw) : keysT (rawTab rs) = rs.map Prod.fst := by
  unfold keysT rawTab
  rw [List.map_map]
  rfl
theorem keys_rawOf (P : Tab) : (rawOf P).map Prod.fst = keysT P := by
  unfold keysT rawOf
  rw [List.map_map]
  rfl
theorem okRow_iff {n : Int} {r : Raw} : okRow n r = true ↔ (r.1.length : Int) = n ∧ (∀ e ∈ r.1, 0 ≤ e) ∧ r.2.1 ≠ 0 ∧ 0 < r.2.2 ∧ Int.gcd r.2.1 r.2.2 = 1 := by
  unfold okRow
  simp only [Bool.and_eq_true, decide_eq_true_eq, List.all_eq_true]
  exact ⟨fun ⟨⟨⟨a, b⟩, c⟩, d, e⟩ => ⟨a, b, c, d, e⟩, fun ⟨a, b, c, d, e⟩ => ⟨⟨⟨a, b⟩, c⟩, d, e⟩⟩
theorem nodup_good {n : Int} {rs : List Raw} (h : ∀ i, i < rs.length → goodAt n rs i = true) : (rs.map Prod.fst).Nodup := by
  rw [List.nodup_iff_pairwise_ne, List.pairwise_iff_getElem]
  intro i j hi hj hij e
  rw [List.length_map] at hi hj
  have g := h j hj
  unfold goodAt at g
  rw [List.getElem?_eq_getElem hj] at g
  obtain ⟨_, g⟩ := (Bool.and_eq_true _ _).mp g |>.imp id id
  refine of_decide_eq_true g (List.mem_map.mpr ⟨rs[i], ?_, ?_⟩)
  · rw [List.mem_take_iff_getElem]
    exact ⟨i, by omega, rfl⟩
  · simpa using e
theorem good_ok {n : Int} {rs : List Raw} (h : ∀ i, i < rs.length → goodAt n rs i = true) : ∀ r ∈ rs, okRow n r = true := fun r hr => by
  obtain ⟨i, hi, rfl⟩ := List.mem_iff_getElem.mp hr
  have g := h i hi
  unfold goodAt at g
  rw [List.getElem?_eq_getElem hi] at g
  exact ((Bool.and_eq_true _ _).mp g).1
theorem nrm_good {n : Nat} {rs : List Raw} (h : ∀ i, i < rs.length → goodAt n rs i = true) : Nrm n (rawTab rs) := by
  refine ⟨by rw [keys_rawTab]; exact nodup_good h, fun t ht => ?_, fun t ht => ?_⟩
  · obtain ⟨r, hr, rfl⟩ := List.mem_map.mp ht
    obtain ⟨h1, h2, h3, h4, h5⟩ := okRow_iff.mp (good_ok h r hr)
    intro z
    refine h3 ?_
    rw [(rat_of h4 h5).1, show Rat.divInt r.2.1 r.2.2 = 0 from z]
    rfl
  · obtain ⟨r, hr, rfl⟩ := List.mem_map.mp ht
    obtain ⟨h1, h2, h3, h4, h5⟩ := okRow_iff.mp (good_ok h r hr)
    exact ⟨Int.ofNat.inj h1, h2⟩
theorem rawOf_at {P : Tab} {i : Nat} : (rawOf P)[i]? = P[i]?.map fun t => (t.1, t.2.num, (t.2.den : Int)) := by
  unfold rawOf
  rw [List.getElem?_map]
theorem good_nrm {n : Nat} {P : Tab} (h : Nrm n P) : ∀ i, i < (rawOf P).length → goodAt n (rawOf P) i = true := fun i hi => by
  have hi2 : i < P.length := by
    unfold rawOf at hi
    rw [List.length_map] at hi
    exact hi
  unfold goodAt
  rw [rawOf_at, List.getElem?_eq_getElem hi2]
  obtain ⟨nd, a, b⟩ := h
  have hm : P[i] ∈ P := List.getElem_mem hi2
  refine (Bool.and_eq_true _ _).mpr ⟨okRow_iff.mpr ⟨?_, (b _ hm).2, fun z => a _ hm (Rat.num_eq_zero.mp z), by have := P[i].2.den_pos; show (0 : Int) < (P[i].2.den : Int); omega, ?_⟩, decide_eq_true ?_⟩
  · show ((P[i].1.length : Nat) : Int) = n
    rw [(b _ hm).1]
  · show Int.gcd P[i].2.num (P[i].2.den : Int) = 1
    exact P[i].2.reduced
  · intro z
    rw [List.map_take, keys_rawOf] at z
    obtain ⟨j, hj, e⟩ := List.mem_take_iff_getElem.mp z
    have hk : i < (keysT P).length := by
      unfold keysT
      rw [List.length_map]
      exact hi2
    have e2 : (keysT P)[i] = P[i].1 := by
      unfold keysT
      exact List.getElem_map _
    exact (List.pairwise_iff_getElem.mp (List.nodup_iff_pairwise_ne.mp nd) j i (by omega) hk (by omega)) (e.trans e2.symm)
end CT

/-! sum(a tuple of ints); the units of a room; the key that orders. -/
namespace CT
open PySem PySem.Spec PySem.Calls PyProof.Rows L2 He
theorem u1 {k : Nat} {A : Around} (r : Room k A) : A.units + 1 < cLine := by have := r.un; omega
theorem u65 {k : Nat} {A : Around} (r : Room k A) : A.units + 65 < cLine := by have := r.un; omega
section
variable {prog : Program} {w : World} {A : Around} {E : Value → Shared → Prop} {s : Shared} {l : Addr} {its : List Value} {ns : List Int} {Q : Value → Shared → Prop}
theorem sum_rawT (hh : A.handled = none) (hl : s.heap.IsTuple l its.toArray) (hi : IntsAre its ns)
    (h : ∀ h' tk t', (∀ b o, s.heap.get? b = some o → h'.get? b = some o) → Q (.int ns.sum t') { s with heap := h', toks := tk }) : wpAny (model prog w) A (call (.builtin "sum") [.ref l]) Q E s := by
  obtain ⟨xs, e⟩ := hi.allInts.items
  have hn : numsOf (intItems xs).toList = ns := by rw [← e]; exact hi.numsOf
  rw [nums_intItems] at hn
  rw [e] at hl
  have hlt : l < s.heap.objs.size := by obtain ⟨_, e, _⟩ := hl; exact Heap.lt_size e
  refine call_sum_walkG (wpAny_pyIter_tuple hl ?_)
  have hT : (s.heap.push { cls := .type "tuple_iterator", data := .fields #[.ref l, .int 0 0] }).IsTuple l (intItems xs) := by
    obtain ⟨o, ho, hc, n, hd⟩ := hl
    exact ⟨o, Heap.get?_push_of_some _ ho, hc, n, hd⟩
  have hI : (s.heap.push { cls := .type "tuple_iterator", data := .fields #[.ref l, .int 0 0] }).IsTupleIter s.heap.objs.size l 0 := ⟨_, Heap.get?_push_size _ rfl, rfl, rfl⟩
  refine ⟨_, _, _, _, _, _, numAt xs, rfl, Walks.tuple (A := A.in1) hh s.heap.objs.size l (Nat.ne_of_lt hlt) (intItems xs), ⟨hI, hT⟩, fun b hb => ?_, (fun _ _ => intItems_at), fun h' tk t' hk => ?_⟩
  · show b < (s.heap.push _).objs.size
    rw [Heap.size_push]
    rcases List.mem_cons.mp hb with rfl | hb
    · exact Nat.lt_succ_self _
    · rw [List.mem_singleton.mp hb]
      exact Nat.lt_succ_of_lt hlt
  · have := h h' tk t' fun b o e => hk b o (fun hm => Nat.ne_of_lt (Heap.lt_size e) (List.mem_singleton.mp hm)) (Heap.get?_push_of_some _ e)
    have e3 : preSum (numAt xs) (intItems xs).size = ns.sum := by
      rw [show (intItems xs).size = xs.size by simp [intItems], preSum_eq, List.take_of_length_le (by simp), hn]
    show Q (.int (preSum (numAt xs) (intItems xs).size) t') _
    rw [e3]
    exact this
end
section
variable {X : Cx}
/-- sum(xs), xs a tuple of ints -/
def rSumT (K : PySem.W.Frag) : List V → Hp → VK → Prop := fun vs H Q => ∃ (a : Addr) (ns : List Int), vs = [V.ref a] ∧ SqT K H a (ns.map V.int) ∧ Q (.int ns.sum) H
theorem cr_sumT (hc : X.calm = true) : CallR X (.builtin "sum") (rSumT X.K) := by
  intro pins s σ H vs us Q I r h
  obtain ⟨a, ns, rfl, hs, q⟩ := h
  obtain ⟨its, rv, hl, _⟩ := I.tuple hs
  rw [Vals.ref1 r]
  exact sum_rawT (I.ok.hd hc) hl rv.ints fun h' tk t' hk => ⟨.int _, H, I.kept hk, ⟨_, rfl⟩, q⟩
end
end CT
namespace CT
open PySem PySem.Spec PySem.Calls PyProof.Rows L2 He
section
variable {X : Cx} {n : Str} {ps : List Str} {k : Nat} {p p1 p2 kp kp2 pos : Pos} {e : Expr} {te : TE} {t : TA}
theorem pe_sortKL (F : FOk X.prog X.w X.K X.mg X.base k n ps (spOrd X.K)) (hr : Room (k + 2) X.A) (m_sorted : X.mg "sorted" = none) (ha : PA X [e] t) (hg : Gl X n := by rfl) (hgs : Gl X "sorted" := by rfl) (hdb : (n == ("__debug__" : Str)) = false := by decide)
    (h1 : backTo pos (starEach [e] X.env) = (false, eval e X.env) :: backTo pos (starEach [] X.env) := by rfl) (h2 : (backTo pos (starEach [e] X.env)).any (·.1) = false := by rfl)
    (h3 : (backToKw pos (keywordEach [⟨some "key", .Name n p1, kp⟩, ⟨some "reverse", .Constant (.bool true) j p2, kp2⟩] X.env)).all (·.1.isSome) = true := by rfl)
    (h4 : (backToKw pos (keywordEach [⟨some "key", .Name n p1, kp⟩, ⟨some "reverse", .Constant (.bool true) j p2, kp2⟩] X.env)).any (·.1.isNone) = false := by rfl)
    (h5 : (backToKw pos (keywordEach [⟨some "key", .Name n p1, kp⟩, ⟨some "reverse", .Constant (.bool true) j p2, kp2⟩] X.env)).filterMap (·.1) = [Str.ofString "key", Str.ofString "reverse"] := by rfl) :
    PE X (.Call (.Name "sorted" p) [e] [⟨some "key", .Name n p1, kp⟩, ⟨some "reverse", .Constant (.bool true) j p2, kp2⟩] pos) (tCKw (rSortKL X.K (ga X.K n) true) t (tCons (tC (.ref (ga X.K n))) (tCons (tC (.bl true)) tNil))) := by
  obtain ⟨g, kp, fd, F, b⟩ := F
  exact pe_callBK (cr_sortKL F b hr) hgs m_sorted (by decide +kernel) ha (pk_cons (pe_gl ⟨_, g, rfl⟩ hg hdb) (pk_cons pe_bl pk_nil)) (by decide) (by decide) h1 h2 h3 h4 h5
theorem pe_sortKD (hc : X.calm = true) (F : FOk X.prog X.w X.K X.mg X.base k n ps (spOrd X.K)) (hr : Room (k + 2) X.A) (m_sorted : X.mg "sorted" = none) (ha : PA X [e] t) (hg : Gl X n := by rfl) (hgs : Gl X "sorted" := by rfl) (hdb : (n == ("__debug__" : Str)) = false := by decide)
    (h1 : backTo pos (starEach [e] X.env) = (false, eval e X.env) :: backTo pos (starEach [] X.env) := by rfl) (h2 : (backTo pos (starEach [e] X.env)).any (·.1) = false := by rfl)
    (h3 : (backToKw pos (keywordEach [⟨some "key", .Name n p1, kp⟩, ⟨some "reverse", .Constant (.bool true) j p2, kp2⟩] X.env)).all (·.1.isSome) = true := by rfl)
    (h4 : (backToKw pos (keywordEach [⟨some "key", .Name n p1, kp⟩, ⟨some "reverse", .Constant (.bool true) j p2, kp2⟩] X.env)).any (·.1.isNone) = false := by rfl)
    (h5 : (backToKw pos (keywordEach [⟨some "key", .Name n p1, kp⟩, ⟨some "reverse", .Constant (.bool true) j p2, kp2⟩] X.env)).filterMap (·.1) = [Str.ofString "key", Str.ofString "reverse"] := by rfl) :
    PE X (.Call (.Name "sorted" p) [e] [⟨some "key", .Name n p1, kp⟩, ⟨some "reverse", .Constant (.bool true) j p2, kp2⟩] pos) (tCKw (rSortKD (ga X.K n) true) t (tCons (tC (.ref (ga X.K n))) (tCons (tC (.bl true)) tNil))) := by
  obtain ⟨g, kp, fd, F, b⟩ := F
  exact pe_callBK (cr_sortKD hc F b hr) hgs m_sorted (by decide +kernel) ha (pk_cons (pe_gl ⟨_, g, rfl⟩ hg hdb) (pk_cons pe_bl pk_nil)) (by decide) (by decide) h1 h2 h3 h4 h5
end
end CT

/-! Comprehensions whose elements leave the heap as it is. -/
namespace CT
open PySem PySem.Spec PySem.Calls PyProof.Rows L2 He
theorem lc_seq {J : It} {n : Nat} {G : Hp → Prop} {Y : Nat → Hp → V → Hp → Prop} {g : TG} {tt : TT} {te : TE} {vs : List Nat} {σ : L2.St} {H1 : Hp} {D : Addr} {Qd : Hp → Prop} (w : Walk J n G Y) (f : Nat → V) (hn : n ≤ sizeLine) (hD : H1 D = none) (hG : ∀ H, Same H1 H → G H)
    (step : ∀ (i : Nat) (x : V) (H H' : Hp), i < n → Same H1 H → Y i H x H' → ∀ (R : VK) (N : Hp → Prop), (∀ H2, Same H H2 → R (f i) H2) → g x (wipe σ vs) H' fun σ2 H2 => wipe σ2 vs = wipe σ vs ∧ tt σ2 H2 fun b H3 => if b = true then te σ2 H3 R else N H3)
    (hd : ∀ H, Same H1 H → H D = some (.lst ((List.range n).map f)) → Qd H) :
    ∃ W : Nat → Nat → Hp → Prop, (∃ m, W 0 m (upd H1 D (.lst []))) ∧ ∀ i m H, W i m H →
      (J.stop i H ∧ Qd H) ∨ (J.go i H ∧ ∃ Nx : Hp → Prop, (∀ H', Nx H' → ∃ m', m' < m ∧ W (i + 1) m' H') ∧ ∀ x H', J.yld i H x H' → g x (wipe σ vs) H' fun σ2 H2 => wipe σ2 vs = wipe σ vs ∧ tt σ2 H2 fun b H3 =>
        if b = true then te σ2 H3 fun y H4 => ∃ acc, H4 D = some (.lst acc) ∧ acc.length < sizeLine ∧ Nx (upd H4 D (.lst (acc ++ [y]))) else Nx H3) := by
  refine lc_it w (fun i H' => Same H1 H' ∧ H' D = some (.lst ((List.range i).map f))) ⟨same_new hD, upd_same⟩ (fun i H' _ hp => hG H' hp.1) (fun i v H2 H' hi hp hy => ?_) (fun H' hp => hd H' hp.1 hp.2)
  refine step i v H2 H' hi hp.1 hy _ _ fun H3 s3 => ⟨_, s3 _ _ hp.2, ?_, fun b o e => ?_, ?_⟩
  · rw [List.length_map, List.length_range]
    omega
  · rw [upd_ne (ne_of_none e hD)]
    exact s3 _ _ (hp.1 _ _ e)
  · rw [upd_same, List.range_succ, List.map_append]
    rfl
theorem range_map {α β : Type} (xs : List α) (h : α → β) (f : Nat → β) (e : ∀ i x, xs[i]? = some x → f i = h x) : (List.range xs.length).map f = xs.map h := by
  refine List.ext_getElem? fun i => ?_
  rw [List.getElem?_map, List.getElem?_map]
  by_cases hi : i < xs.length
  · rw [List.getElem?_range hi, List.getElem?_eq_getElem hi]
    show some (f i) = some (h xs[i])
    rw [e i _ (List.getElem?_eq_getElem hi)]
  · rw [List.getElem?_eq_none (by simpa using hi), List.getElem?_eq_none (by omega)]
    rfl
end CT
namespace CT
open PySem PySem.Spec PySem.Calls PyProof.Rows L2 He
/-- .. whose elements are new objects, R of the i-th -/
theorem lc_refs {K : PySem.W.Frag} {J : It} {n : Nat} {G : Hp → Prop} {Y : Nat → Hp → V → Hp → Prop} {g : TG} {tt : TT} {te : TE} {vs : List Nat} {σ : L2.St} {H1 : Hp} {D : Addr} {Qd : Hp → Prop} (w : Walk J n G Y) (R : Nat → Hp → Addr → Prop) (mono : ∀ i H H' t, TK2 K H H' → R i H t → R i H' t) (hn : n ≤ sizeLine) (hD : H1 D = none) (hG : ∀ H, Same H1 H → G H)
    (step : ∀ (i : Nat) (x : V) (H H' : Hp), i < n → Same H1 H → Y i H x H' → ∀ (S : VK) (N : Hp → Prop), (∀ t H2, Same H H2 → R i H2 t → S (.ref t) H2) → g x (wipe σ vs) H' fun σ2 H2 => wipe σ2 vs = wipe σ vs ∧ tt σ2 H2 fun b H3 => if b = true then te σ2 H3 S else N H3)
    (hd : ∀ (H : Hp) (as : List Addr), Same H1 H → H D = some (.lst (as.map V.ref)) → as.length = n → (∀ j t, as[j]? = some t → R j H t) → Qd H) :
    ∃ W : Nat → Nat → Hp → Prop, (∃ m, W 0 m (upd H1 D (.lst []))) ∧ ∀ i m H, W i m H →
      (J.stop i H ∧ Qd H) ∨ (J.go i H ∧ ∃ Nx : Hp → Prop, (∀ H', Nx H' → ∃ m', m' < m ∧ W (i + 1) m' H') ∧ ∀ x H', J.yld i H x H' → g x (wipe σ vs) H' fun σ2 H2 => wipe σ2 vs = wipe σ vs ∧ tt σ2 H2 fun b H3 =>
        if b = true then te σ2 H3 fun y H4 => ∃ acc, H4 D = some (.lst acc) ∧ acc.length < sizeLine ∧ Nx (upd H4 D (.lst (acc ++ [y]))) else Nx H3) := by
  refine lc_it w (fun i H' => Same H1 H' ∧ ∃ as : List Addr, H' D = some (.lst (as.map V.ref)) ∧ as.length = i ∧ ∀ j t, as[j]? = some t → R j H' t) ⟨same_new hD, [], upd_same, rfl, fun j t e => by simp at e⟩ (fun i H' _ hp => hG H' hp.1) (fun i v H2 H' hi hp hy => ?_) (fun H' hp => ?_)
  · obtain ⟨s1, as, e1, l1, r1⟩ := hp
    refine step i v H2 H' hi s1 hy _ _ fun t H3 s3 rt => ⟨_, s3 _ _ e1, ?_, fun b o e => ?_, as ++ [t], ?_, ?_, fun j u e => ?_⟩
    · rw [List.length_map]
      omega
    · rw [upd_ne (ne_of_none e hD)]
      exact s3 _ _ (s1 _ _ e)
    · rw [upd_same, List.map_append]
      rfl
    · rw [List.length_append, l1]
      rfl
    · have tk : TK2 K H3 (upd H3 D (.lst (as.map V.ref ++ [V.ref t]))) := TK2.upd (s3 _ _ e1) (fun _ z => by cases z) (fun _ _ z => by cases z)
      by_cases hj : j < as.length
      · rw [List.getElem?_append_left hj] at e
        exact mono j _ _ u ((TK2.same s3).trans tk) (r1 j u e)
      · rw [List.getElem?_append_right (by omega)] at e
        obtain ⟨e2, e3⟩ : j - as.length = 0 ∧ t = u := by
          rcases h : j - as.length with _ | k
          · rw [h] at e
            exact ⟨rfl, by simpa using e⟩
          · rw [h] at e
            simp at e
        subst e3
        have : j = i := by omega
        rw [this]
        exact mono i _ _ t tk rt
  · obtain ⟨s1, as, e1, l1, r1⟩ := hp
    exact hd H' as s1 e1 l1 r1
end CT

/-! The promises of sums and products of fractions, by rationals; a term put into a table. -/
namespace CT
open PySem PySem.Spec PySem.Calls PyProof.Rows L2 He
def spFr (K : PySem.W.Frag) (f g : Int → Int → Int → Int → Int) : Sp := fun vs H Q _ => ∃ (p q : Addr) (a b c d : Int), vs = [.ref p, .ref q] ∧ SqT K H p [.int a, .int b] ∧ SqT K H q [.int c, .int d] ∧ Mid a ∧ Mid b ∧ Mid c ∧ Mid d ∧ b ≠ 0 ∧ d ≠ 0 ∧
  ∀ r H', Same H H' → H' r = some (.tup [.int (fracT (f a b c d) (g a b c d)), .int (fracU (f a b c d) (g a b c d))]) → Q (.ref r) H'
def spAdd (K : PySem.W.Frag) : Sp := spFr K (fun a b c d => a * d + c * b) (fun _ b _ d => b * d)
def spMul (K : PySem.W.Frag) : Sp := spFr K (fun a _ c _ => a * c) (fun _ b _ d => b * d)
theorem frac1 {t t' u' : Int} (h1 : t' = t) (h2 : u' = 1) : some (HO.tup [.int t, .int 1]) = some (.tup [.int (fracT t' u'), .int (fracU t' u')]) := by
  rw [h1, h2, fracT_one, fracU_one]
/-- small numerator and denominator -/
def MidQ (q : Rat) : Prop := Mid q.num ∧ Mid (q.den : Int)
theorem MidQ.zero : MidQ 0 := ⟨Mid.of (n := 1) (by decide), Mid.of (n := 1) (by decide)⟩
theorem tup2 {a b c d : Int} (h : a = c) (k : b = d) : some (HO.tup [.int a, .int b]) = some (.tup [.int c, .int d]) := by rw [h, k]
theorem MidQ.of {D n : Nat} {q : Rat} (o : OkS D n) (h : Sz D n q) : MidQ q := h.mid o
def FracP (q : Rat) : HO := .tup [.int q.num, .int (q.den : Int)]
theorem Qt.of {K : PySem.W.Frag} {H : Hp} {p : Addr} {q : Rat} (h : H p = some (FracP q)) : Qt K H p q := .inl (.inl h)
theorem Qt.keep {K : PySem.W.Frag} {H H' : Hp} {p : Addr} {q : Rat} (h : Qt K H p q) (k : TK K H H') : Qt K H' p q := k _ _ h
theorem Qt.zero {K : PySem.W.Frag} {H : Hp} {p : Addr} (h : SqT K H p [.int 0, .int 1]) : Qt K H p 0 := h
theorem Qt.one {K : PySem.W.Frag} {H : Hp} {p : Addr} (h : SqT K H p [.int 1, .int 1]) : Qt K H p 1 := h
def spOpQ (K : PySem.W.Frag) (f : Rat → Rat → Rat) : Sp := fun vs H Q _ => ∃ (p q : Addr) (x y : Rat), vs = [.ref p, .ref q] ∧ Qt K H p x ∧ Qt K H q y ∧ MidQ x ∧ MidQ y ∧ ∀ r H', Same H H' → H' r = some (FracP (f x y)) → Q (.ref r) H'
theorem FOkX.addQ {CX : CXT} {P : Program} {w : World} {K : PySem.W.Frag} {mg : Str → Option Value} {base : Heap} {k : Nat} {n : Str} {ps : List Str} (F : FOkX CX P w K mg base k n ps (spAdd K)) : FOkX CX P w K mg base k n ps (spOpQ K (· + ·)) :=
  F.imp fun vs H Q E ⟨p, q, x, y, e, h1, h2, m1, m2, h⟩ => ⟨p, q, _, _, _, _, e, h1, h2, m1.1, m1.2, m2.1, m2.2, den_ne0 x, den_ne0 y, fun r H' sm er => h r H' sm (by
    obtain ⟨a, b⟩ := frac_add x y
    exact er.trans (tup2 a b))⟩
theorem FOkX.mulQ {CX : CXT} {P : Program} {w : World} {K : PySem.W.Frag} {mg : Str → Option Value} {base : Heap} {k : Nat} {n : Str} {ps : List Str} (F : FOkX CX P w K mg base k n ps (spMul K)) : FOkX CX P w K mg base k n ps (spOpQ K (· * ·)) :=
  F.imp fun vs H Q E ⟨p, q, x, y, e, h1, h2, m1, m2, h⟩ => ⟨p, q, _, _, _, _, e, h1, h2, m1.1, m1.2, m2.1, m2.2, den_ne0 x, den_ne0 y, fun r H' sm er => h r H' sm (by
    obtain ⟨a, b⟩ := frac_mul x y
    exact er.trans (tup2 a b))⟩
/-- a term's number set; zero: the term goes -/
def putz (P : Tab) (k : Mono) (v : Rat) : Tab := if v = 0 then delT P k else put P k v
theorem keys_delT (P : Tab) (k : Mono) : keysT (delT P k) = (keysT P).filter fun j => decide (j ≠ k) := by
  unfold keysT delT
  rw [List.filter_map]
  rfl
theorem gt_delT (P : Tab) (k j : Mono) : gt (delT P k) j = if j = k then 0 else gt P j := by
  induction P with
  | nil => unfold delT; simp [gt]
  | cons t P ih =>
    unfold delT at ih ⊢
    by_cases e : t.1 = k
    · rw [List.filter_cons_of_neg (by simp [e]), ih]
      by_cases q : j = k
      · rw [if_pos q, if_pos q]
      · rw [if_neg q, if_neg q]
        show gt P j = if t.1 = j then t.2 else gt P j
        rw [if_neg fun z => q (z.symm.trans e)]
    · rw [List.filter_cons_of_pos (by simp [e])]
      show (if t.1 = j then t.2 else gt _ j) = if j = k then 0 else if t.1 = j then t.2 else gt P j
      by_cases q : t.1 = j
      · rw [if_pos q, if_neg fun z => e (q.trans z), if_pos q]
      · rw [if_neg q, if_neg q]
        exact ih
theorem gt_putz (P : Tab) (k : Mono) (v : Rat) (j : Mono) : gt (putz P k v) j = if j = k then v else gt P j := by
  unfold putz
  split
  · rename_i h
    rw [gt_delT, h]
  · exact gt_put P k v j
theorem nodup_putz {P : Tab} {k : Mono} {v : Rat} (nd : (keysT P).Nodup) : (keysT (putz P k v)).Nodup := by
  unfold putz
  split
  · rw [keys_delT]
    exact List.Sublist.nodup List.filter_sublist nd
  · exact nodup_put nd
theorem keys_putz {P : Tab} {k j : Mono} {v : Rat} (h : j ∈ keysT (putz P k v)) : j = k ∨ j ∈ keysT P := by
  unfold putz at h
  split at h
  · rw [keys_delT] at h
    exact .inr (List.mem_filter.mp h).1
  · rw [keys_put] at h
    split at h
    · exact .inr h
    · rcases List.mem_append.mp h with h | h
      · exact .inr h
      · exact .inl (List.mem_singleton.mp h)
theorem len_putz (P : Tab) (k : Mono) (v : Rat) : (putz P k v).length ≤ P.length + 1 := by
  unfold putz
  split
  · exact Nat.le_succ_of_le (List.length_filter_le _ _)
  · unfold put
    split
    · rw [List.length_map]
      exact Nat.le_succ _
    · rw [List.length_append]
      exact Nat.le_refl _
theorem Nrm.putz {n : Nat} {P : Tab} (h : Nrm n P) {k : Mono} (hk : k.length = n ∧ ∀ e ∈ k, 0 ≤ e) (v : Rat) : Nrm n (CT.putz P k v) := by
  have nd := nodup_putz (k := k) (v := v) h.nd
  refine ⟨nd, fun t ht z => ?_, fun t ht => ?_⟩
  · have h1 := gt_mem nd ht
    rw [gt_putz] at h1
    by_cases e : t.1 = k
    · rw [if_pos e] at h1
      have hv : v = 0 := h1.trans z
      unfold CT.putz at ht
      rw [if_pos hv] at ht
      exact of_decide_eq_true (List.mem_filter.mp ht).2 e
    · rw [if_neg e] at h1
      rcases keys_putz (List.mem_map_of_mem (f := Prod.fst) ht) with y | y
      · exact e y
      · exact (gt_ne h.nd h.nz _).mp y (h1.trans z)
  · rcases keys_putz (List.mem_map_of_mem (f := Prod.fst) ht) with y | y
    · rw [show t.1 = k from y]
      exact hk
    · obtain ⟨u, hu, e⟩ := List.mem_map.mp y
      rw [← show u.1 = t.1 from e]
      exact h.ln u hu
theorem delT_none {P : Tab} {k : Mono} (h : k ∉ keysT P) : delT P k = P := by
  unfold delT
  refine List.filter_eq_self.mpr fun t ht => decide_eq_true fun e => h ?_
  rw [← e]
  exact List.mem_map_of_mem ht
/-- the terms in their order: the highest first -/
def sortT (P : Tab) : Tab := P.mergeSort (PySem.W.dataLe true fun t => ordKey t.1)
theorem sortT_perm (P : Tab) : (sortT P).Perm P := List.mergeSort_perm _ _
end CT
namespace CT
open PySem PySem.Spec PySem.Calls PyProof.Rows L2 He
theorem rep_int (n : Nat) (z : Int) : (List.replicate n [V.int z]).flatten = (List.replicate n z).map V.int := by
  induction n with
  | zero => rfl
  | succ n ih =>
    rw [List.replicate_succ, List.flatten_cons, ih, List.replicate_succ]
    rfl
theorem sum_set {es : List Int} {k : Nat} {z : Int} (h : es[k]? = some z) : (es.set k (z + 1)).sum = es.sum + 1 := by
  induction es generalizing k with
  | nil => cases h
  | cons a es ih =>
    cases k with
    | zero =>
      obtain rfl : a = z := by simpa using h
      show (a + 1 + es.sum : Int) = a + es.sum + 1
      omega
    | succ k =>
      show (a + (es.set k (z + 1)).sum : Int) = a + es.sum + 1
      rw [ih (by simpa using h)]
      omega
theorem nn_set {es : List Int} {k : Nat} {z : Int} (h : es[k]? = some z) (hz : ∀ e ∈ es, 0 ≤ e) : ∀ e ∈ es.set k (z + 1), 0 ≤ e := fun e he => by
  rcases List.mem_or_eq_of_mem_set he with h1 | h1
  · exact hz e h1
  · have := hz z (List.mem_of_getElem? h)
    omega
theorem sum_rep0 (n : Nat) : (List.replicate n (0 : Int)).sum = 0 := by
  induction n with
  | zero => rfl
  | succ n ih =>
    rw [List.replicate_succ, List.sum_cons, ih]
    rfl
/-- a small drawn fraction -/
theorem sz_small {t u : Int} (hu : 0 < u) (h1 : t.natAbs ≤ 6) (h2 : u.natAbs ≤ 6) : Sz 60 360 (Rat.divInt t u) := by
  refine Sz.of_ints hu ?_ (by omega)
  have : u = 1 ∨ u = 2 ∨ u = 3 ∨ u = 4 ∨ u = 5 ∨ u = 6 := by omega
  rcases this with h | h | h | h | h | h <;> (rw [h]; decide)
end CT
namespace CT
open PySem PySem.Spec PySem.Calls PyProof.Rows L2 He
theorem ixN_nat {n j : Nat} (h : j < n) : ixN n (j : Int) = some j := by
  unfold ixN
  rw [if_pos (by omega)]
  first
  | (rw [if_pos (by omega)]; rfl)
  | simp [h]
end CT
namespace CT
theorem two64 : (2 : Nat) ^ 64 ≤ 2 ^ 1500 := Nat.pow_le_pow_right (by decide) (by decide)
theorem OkS.small {D n : Nat} (h0 : 0 < D) (h1 : D < 2 ^ 64) (h2 : n < 2 ^ 64) : OkS D n := ⟨h0, Nat.lt_of_lt_of_le h1 two64, Nat.lt_of_lt_of_le h2 two64⟩
end CT

/-! Terms in order. -/
namespace CT
open PySem PySem.Spec PySem.Calls PyProof.Rows L2 He PySem.W
def sortK (ks : List Mono) : List Mono := ks.mergeSort (dataLe true ordKey)
theorem keys_sortT (P : Tab) : keysT (sortT P) = sortK (keysT P) := List.map_mergeSort fun _ _ _ _ => rfl
theorem keys_ordRows (items : List Row) : (ordRows true items).map Prod.snd = sortK (items.map Prod.snd) := List.map_mergeSort fun _ _ _ _ => rfl
theorem rows_paired {H : Hp} {l : List (Mono × Addr)} {bs : List Addr} (h : IsKeys H (l.map ent) bs) : ∃ items : List Row, items.map Prod.fst = bs ∧ items.map Prod.snd = l.map Prod.fst ∧ ∀ it ∈ items, H it.1 = some (.tup (it.2.map V.int)) := by
  unfold IsKeys at h
  generalize e : l.map ent = m at h
  induction h generalizing l with
  | nil =>
    obtain rfl : l = [] := List.map_eq_nil_iff.mp e
    exact ⟨[], rfl, rfl, fun _ h => by cases h⟩
  | @cons p b m bs h _ ih =>
    cases l with
    | nil => cases e
    | cons q l =>
      rw [List.map_cons] at e
      injection e with e1 e2
      obtain ⟨items, h1, h2, h3⟩ := ih e2
      subst e1
      refine ⟨(b, q.1) :: items, by rw [List.map_cons, h1], by rw [List.map_cons, h2]; rfl, fun it hit => ?_⟩
      rcases List.mem_cons.mp hit with rfl | hit
      · have h : H b = some (.tup ((kI q.1).map kV)) := h
        rw [kI_V] at h
        exact h
      · exact h3 it hit
/-- the j-th row of the sorted ones -/
theorem ord_at {P : Tab} (nd : (keysT P).Nodup) {items : List Row} (e : items.map Prod.snd = keysT P) {j : Nat} {it : Row} (h : (ordRows true items)[j]? = some it) : it ∈ items ∧ it.2 ∈ keysT P ∧ (sortT P)[j]? = some (it.2, gt P it.2) := by
  have hm : it ∈ items := (List.mergeSort_perm items _).mem_iff.mp (List.mem_of_getElem? h)
  have hk : it.2 ∈ keysT P := by
    rw [← e]
    exact List.mem_map_of_mem hm
  have h1 : (keysT (sortT P))[j]? = some it.2 := by
    rw [keys_sortT, ← e, ← keys_ordRows, List.getElem?_map, h]
    rfl
  unfold keysT at h1
  rw [List.getElem?_map] at h1
  obtain ⟨t, ht, e2⟩ := Option.map_eq_some_iff.mp h1
  have h2 : t ∈ P := (sortT_perm P).mem_iff.mp (List.mem_of_getElem? ht)
  refine ⟨hm, hk, ?_⟩
  rw [ht, ← e2, gt_mem nd h2]
theorem ord_len {P : Tab} {items : List Row} (e : items.map Prod.snd = keysT P) : (ordRows true items).length = (sortT P).length := by
  have h1 := (List.mergeSort_perm items (dataLe true fun it => ordKey it.2)).length_eq
  have h2 := (sortT_perm P).length_eq
  have h3 := congrArg List.length e
  unfold keysT at h3
  rw [List.length_map, List.length_map] at h3
  show (items.mergeSort _).length = _
  omega
end CT

/-! Nested data of integers: equal as data exactly if equal. -/
namespace CT
open PySem PySem.Spec PySem.Calls PyProof.Rows L2 He
structure Enc {α : Type} [DecidableEq α] (f : α → PyData) (n : Nat) : Prop where
  lay : ∀ x, (f x).canLay0 = true ∧ (f x).depth ≤ n
  eq : ∀ x y, PyData.eqv (f x) (f y) = decide (x = y)
section
variable {α β : Type} [DecidableEq α] [DecidableEq β] {f : α → PyData} {g : β → PyData} {n m : Nat}
theorem Enc.int : Enc PyData.int 0 := ⟨fun x => by simp [PyData.canLay0, PyData.depth], fun x y => by
  simp only [PyData.eqv]
  by_cases h : x = y
  · simp [h]
  · simp [h]⟩
theorem Enc.all (e : Enc f n) : ∀ xs : List α, PyData.canLayAll0 (xs.map f) = true ∧ PyData.depthAll (xs.map f) ≤ n
  | [] => by simp [PyData.canLayAll0, PyData.depthAll]
  | x :: xs => by
    obtain ⟨h1, h2⟩ := e.all xs
    obtain ⟨k1, k2⟩ := e.lay x
    rw [List.map_cons]
    simp only [PyData.canLayAll0, PyData.depthAll, k1, h1, Bool.and_true, true_and]
    exact Nat.max_le.mpr ⟨k2, h2⟩
theorem Enc.eqs (e : Enc f n) : ∀ xs ys : List α, PyData.eqvAll (xs.map f) (ys.map f) = decide (xs = ys)
  | [], [] => by simp [PyData.eqvAll]
  | [], y :: ys => by simp [PyData.eqvAll]
  | x :: xs, [] => by simp [PyData.eqvAll]
  | x :: xs, y :: ys => by
    rw [List.map_cons, List.map_cons]
    simp only [PyData.eqvAll]
    rw [e.eq, e.eqs xs ys]
    by_cases h : x = y
    · by_cases k : xs = ys
      · simp [h, k]
      · simp [h, k]
    · simp [h]
theorem Enc.lst (e : Enc f n) : Enc (fun xs : List α => PyData.list (xs.map f)) (n + 1) := ⟨fun xs => by
    obtain ⟨h1, h2⟩ := e.all xs
    simp only [PyData.canLay0, PyData.depth]
    exact ⟨h1, by omega⟩, fun xs ys => by
    simp only [PyData.eqv]
    exact e.eqs xs ys⟩
theorem Enc.tup (e : Enc f n) : Enc (fun xs : List α => PyData.tuple (xs.map f)) (n + 1) := ⟨fun xs => by
    obtain ⟨h1, h2⟩ := e.all xs
    simp only [PyData.canLay0, PyData.depth]
    exact ⟨h1, by omega⟩, fun xs ys => by
    simp only [PyData.eqv]
    exact e.eqs xs ys⟩
theorem Enc.pair (e : Enc f n) (k : Enc g m) : Enc (fun p : α × β => PyData.tuple [f p.1, g p.2]) (max n m + 1) := ⟨fun p => by
    obtain ⟨h1, h2⟩ := e.lay p.1
    obtain ⟨k1, k2⟩ := k.lay p.2
    simp only [PyData.canLay0, PyData.depth, PyData.canLayAll0, PyData.depthAll, h1, k1]
    exact ⟨rfl, by omega⟩, fun p q => by
    simp only [PyData.eqv, PyData.eqvAll]
    rw [e.eq, k.eq]
    obtain ⟨p1, p2⟩ := p
    obtain ⟨q1, q2⟩ := q
    by_cases h : p1 = q1
    · by_cases k : p2 = q2
      · simp [h, k]
      · simp [h, k]
    · simp [h]⟩
theorem Enc.sh (e : Enc f n) (hn : n ≤ 64) (x : α) : SeqAt.shaped (f x) = true := by
  unfold SeqAt.shaped
  obtain ⟨h1, h2⟩ := e.lay x
  rw [h1, decide_eq_true (by omega)]
  rfl
variable {K : PySem.W.Frag} {H : Hp} {x y : V} {a b : α} {Q : VK}
theorem Enc.rEq (e : Enc f n) (hx : Dp K H x (f a)) (hy : Dp K H y (f b)) (q : Q (.bl (decide (a = b))) H) (hn : n ≤ 64 := by decide) : rEqD K x y H Q :=
  ⟨_, _, hx, hy, e.sh hn a, e.sh hn b, by rw [e.eq]; exact q⟩
theorem Enc.rNe (e : Enc f n) (hx : Dp K H x (f a)) (hy : Dp K H y (f b)) (q : Q (.bl (!decide (a = b))) H) (hn : n ≤ 64 := by decide) : rNeD K x y H Q :=
  ⟨_, _, hx, hy, e.sh hn a, e.sh hn b, by rw [e.eq]; exact q⟩
theorem any_eq (e : Enc f n) (l : List α) (a : α) : ((l.map f).any fun z => PyData.eqv z (f a)) = decide (a ∈ l) := by
  induction l with
  | nil => simp
  | cons y l ih =>
    rw [List.map_cons, List.any_cons, ih, e.eq]
    by_cases h : y = a
    · simp [h]
    · have : a ≠ y := fun z => h z.symm
      simp [h, this]
theorem Enc.rIn (e : Enc f n) {l : List α} (hx : Dp K H x (f a)) (hy : Dp K H y (.list (l.map f))) (q : Q (.bl (decide (a ∈ l))) H) (hn : n + 1 ≤ 64 := by decide) : rInD K x y H Q :=
  ⟨_, _, hx, hy, e.sh (by omega) a, e.lst.sh hn l, by rw [any_eq e]; exact q⟩
theorem Enc.rNotIn (e : Enc f n) {l : List α} (hx : Dp K H x (f a)) (hy : Dp K H y (.list (l.map f))) (q : Q (.bl (!decide (a ∈ l))) H) (hn : n + 1 ≤ 64 := by decide) : rNotInD K x y H Q :=
  ⟨_, _, hx, hy, e.sh (by omega) a, e.lst.sh hn l, by rw [any_eq e]; exact q⟩
end
/-! ### rows -/
def intsF (es : List Int) : PyData := .tuple (es.map PyData.int)
def fracF (p : Int × Int) : PyData := .tuple [.int p.1, .int p.2]
def rowF (r : Raw) : PyData := .tuple [intsF r.1, fracF r.2]
def rowsF (rs : List Raw) : PyData := .list (rs.map rowF)
theorem enc_ints : Enc intsF 1 := Enc.int.tup
theorem enc_frac : Enc fracF 1 := Enc.int.pair Enc.int
theorem enc_row : Enc rowF 2 := enc_ints.pair enc_frac
theorem enc_rows : Enc rowsF 3 := enc_row.lst
section
variable {K : PySem.W.Frag} {H : Hp}
theorem dp_tup {p : Addr} {es : List Int} (h : SqT K H p (es.map V.int)) : Dp K H (.ref p) (intsF es) := .tup h (dp_ints es)
theorem dp_frac {p : Addr} {a b : Int} (h : SqT K H p [.int a, .int b]) : Dp K H (.ref p) (fracF (a, b)) := .tup h (.cons (.int a) (.cons (.int b) .nil))
theorem RowAt.dp {t : Addr} {r : Raw} (h : RowAt K H t r) : Dp K H (.ref t) (rowF r) := by
  obtain ⟨p, v, h1, h2, h3⟩ := h
  exact .tup h1 (.cons (dp_tup (.inl (.inl h2))) (.cons (dp_frac h3) .nil))
theorem RowsAt.dps {as : List Addr} {rs : List Raw} (h : RowsAt K H as rs) : DpAll K H (as.map V.ref) (rs.map rowF) := by
  induction h with
  | nil => exact .nil
  | cons h _ ih => exact .cons h.dp ih
theorem RowsAt.dp {l : Addr} {as : List Addr} {rs : List Raw} (h : RowsAt K H as rs) (hl : SqL K H l (as.map V.ref)) : Dp K H (.ref l) (rowsF rs) := .lst hl h.dps
theorem dp_intsL {l : Addr} {es : List Int} (h : SqL K H l (es.map V.int)) : Dp K H (.ref l) (.list (es.map PyData.int)) := .lst h (dp_ints es)
end
theorem enc_intsL : Enc (fun es : List Int => PyData.list (es.map PyData.int)) 1 := Enc.int.lst
end CT
namespace CT
open PySem PySem.Spec PySem.Calls PyProof.Rows L2 He
section
variable {K : PySem.W.Frag} {H : Hp} {a b : Addr} {xs ys : List V} {Q : VK}
theorem read_catA (ha : SqT K H a xs) (hb : H b = some (.tup ys)) (hy : ys ≠ []) (hz : xs.length + ys.length ≤ sizeLine) (q : ∀ p H', Same H H' → H' p = some (.tup (xs ++ ys)) → Q (.ref p) H') : rCatA K (.ref a) (.ref b) H Q :=
  ⟨a, b, xs, ys, rfl, rfl, ha, .inl (.inl hb), hz, fun e => q b H (Same.refl H) (by rw [e]; exact hb), fun _ e => absurd e hy, fun _ _ p hp => q p _ (same_new hp) upd_same⟩
theorem read_slA {lo hi : Option Int} (ha : H a = some (.tup xs)) (q : ∀ p H', Same H H' → H' p = some (.tup (cutV xs lo hi)) → Q (.ref p) H') : rSlA K (.ref a) lo hi H Q :=
  ⟨a, xs, rfl, .inl (.inl ha), fun ⟨e1, e2⟩ => q a H (Same.refl H) (by
    unfold cutV
    rw [e1, e2, List.drop_zero, Nat.sub_zero, List.take_of_length_le (Nat.le_refl _)]
    exact ha), fun _ p hp => q p _ (same_new hp) upd_same⟩
theorem cutV_int (es : List Int) (lo hi : Option Int) : ∃ fs : List Int, cutV (es.map V.int) lo hi = fs.map V.int ∧ fs.length ≤ es.length := by
  refine ⟨(es.drop (HT.sIx (es.map V.int).length 0 lo)).take (HT.sIx (es.map V.int).length (es.map V.int).length hi - HT.sIx (es.map V.int).length 0 lo), ?_, ?_⟩
  · unfold cutV
    rw [List.map_take, List.map_drop]
  · rw [List.length_take, List.length_drop]
    omega
end
end CT
namespace CT
open PySem PySem.Spec PySem.Calls PyProof.Rows L2 He
theorem read_np {σ : L2.St} {H : Hp} {F : Option Int → Hp → Prop} (h : F none H) : tNoPart σ H F := h
theorem read_pa {t : TE} {σ : L2.St} {H : Hp} {F : Option Int → Hp → Prop} (h : t σ H fun x H1 => ∃ i, x = .int i ∧ F (some i) H1) : tPart t σ H F := h
end CT
namespace CT
theorem bads_nil {f : Nat → Bool} {n : Nat} (h : ∀ i, i < n → f i = true) : (List.range n).filter (fun j => !f j) = [] :=
  List.filter_eq_nil_iff.mpr fun j hj => by
    rw [h j (List.mem_range.mp hj)]
    decide
theorem bads_head {f : Nat → Bool} {n i : Nat} (hi : i < n) (hg : ∀ j, j < i → f j = true) (hb : f i = false) : ∃ r, (List.range n).filter (fun j => !f j) = i :: r := by
  induction n with
  | zero => exact absurd hi (Nat.not_lt_zero i)
  | succ n ih =>
    rw [List.range_succ, List.filter_append]
    by_cases h : i < n
    · obtain ⟨r, e⟩ := ih h
      exact ⟨_, by rw [e]; rfl⟩
    · obtain rfl : i = n := by omega
      refine ⟨[], ?_⟩
      rw [bads_nil hg, List.filter_cons_of_pos (by rw [hb]; rfl)]
      rfl
theorem good_or (f : Nat → Bool) (n : Nat) : (∀ i, i < n → f i = true) ∨ ∃ i, i < n ∧ (∀ j, j < i → f j = true) ∧ f i = false := by
  induction n with
  | zero => exact .inl fun i hi => absurd hi (Nat.not_lt_zero i)
  | succ n ih =>
    rcases ih with h | ⟨i, hi, h1, h2⟩
    · by_cases e : f n = true
      · refine .inl fun i hi => ?_
        by_cases q : i < n
        · exact h i q
        · rw [show i = n by omega]
          exact e
      · exact .inr ⟨n, Nat.lt_succ_self n, h, by simpa using e⟩
    · exact .inr ⟨i, by omega, h1, h2⟩
end CT
namespace CT
open PySem PySem.Spec PySem.Calls PyProof.Rows L2 He
theorem cutV_take (xs : List V) (j : Nat) : cutV xs none (some (j : Int)) = xs.take j := by
  unfold cutV HT.sIx
  simp only [Option.getD_none, Option.getD_some, Nat.sub_zero, List.drop_zero]
  first
  | (rw [List.take_eq_take_iff]; omega)
  | (split <;> simp <;> omega)
end CT
namespace CT
open PySem PySem.Spec PySem.Calls PyProof.Rows L2 He
theorem dps_keys {K : PySem.W.Frag} {H : Hp} : ∀ {us : List Addr} {rows : List Raw}, us.length = rows.length → (∀ (t : Nat) (u : Addr), us[t]? = some u → ∃ r : Raw, rows[t]? = some r ∧ H u = some (.tup (r.1.map V.int))) → DpAll K H (us.map V.ref) ((rows.map Prod.fst).map intsF)
  | [], [], _, _ => .nil
  | [], _ :: _, h, _ => by cases h
  | _ :: _, [], h, _ => by cases h
  | u :: us, r :: rows, h, g => by
    obtain ⟨r', e, hu⟩ := g 0 u rfl
    cases e
    exact .cons (dp_tup (.inl (.inl hu))) (dps_keys (Nat.succ.inj h) fun t u' e => by simpa using g (t + 1) u' (by simpa using e))
end CT

/-! tuple * int, any small count. -/
namespace CT
open PySem PySem.Spec PySem.Calls PyProof.Rows L2 He
theorem tuple_mul1 (l : Addr) (items : Array Value) (n : Nat) (sl : Array (Option Value)) (dd : Option Addr) (u : Tok) :
    Meets (Builtin.«tuple.__mul__» ⟨[.ref l, .int 1 u], []⟩) (fun _ R s => s.heap.get? l = some { cls := .type "tuple", dict := dd, data := .seq items n, slots := sl } ∧ R (.ok (.ret (Value.ref l))) s) :=
  .of_wp fun prog w A R s h => by
    obtain ⟨hp, g, d, tk, os⟩ := s
    obtain ⟨hl, h⟩ := h
    have f1 := AutoSeq1.idx_int
    have c1 : (items.isEmpty || (1 : Int) == 1) = true := by simp
    wp_walk using wpAny_loadPart' hl
    repeat (first
      | (refine wpAny_ite_false (by decide) ?_; wp_walk using wpAny_loadPart' hl)
      | (refine wpAny_ite_true (by simp) ?_; wp_walk using wpAny_loadPart' hl))
    all_goals first | exact ⟨_, rfl, h⟩ | exact h | skip
theorem tuple_mul0 (l : Addr) (items : Array Value) (n : Nat) (dd : Option Addr) (sl : Array (Option Value)) (x : Int) (u : Tok) (c0 : (decide (x < -(2 ^ 63)) || decide (x ≥ 2 ^ 63)) = false) (c1 : (items.isEmpty || x == 1) = false) (c2 : (decide (x ≤ 0) || items.isEmpty) = true) :
    Meets (Builtin.«tuple.__mul__» ⟨[.ref l, .int x u], []⟩) (fun _ R s => s.heap.get? l = some { cls := .type "tuple", dict := dd, data := .seq items n, slots := sl } ∧
      R (.ok (.ret (Value.ref s.heap.objs.size))) { s with heap := s.heap.push { cls := Value.type "tuple", data := Data.seq #[] }, toks := s.toks }) :=
  .of_wp fun prog w A R s h => by
    obtain ⟨hp, g, d, tk, os⟩ := s
    obtain ⟨hl, h⟩ := h
    have f1 := AutoSeq1.idx_int
    wp_walk using wpAny_loadPart' hl
    repeat (first
      | (refine wpAny_ite_false (decide_eq_false (by rw [c0]; exact Bool.false_ne_true)) ?_; wp_walk using wpAny_loadPart' hl)
      | (refine wpAny_ite_false (decide_eq_false (by rw [c1]; exact Bool.false_ne_true)) ?_; wp_walk using wpAny_loadPart' hl)
      | (refine wpAny_ite_true (decide_eq_true c2) ?_; wp_walk using wpAny_loadPart' hl))
    all_goals first | exact ⟨_, rfl, h⟩ | exact h | skip
end CT
namespace CT
open PySem PySem.Spec PySem.Calls PyProof.Rows L2 He
section
variable {X : Cx}
/-- xs * k, xs a tuple that is not empty -/
def rRepA (K : PySem.W.Frag) : R2 := fun x y H Q => ∃ l k xs, x = .ref l ∧ y = .int k ∧ H l = some (.tup xs) ∧ xs ≠ [] ∧ 0 ≤ k ∧ k ≤ 1000 ∧ xs.length ≤ 1000 ∧ ∀ p H', Same H H' → H' p = some (.tup (List.replicate k.toNat xs).flatten) → Q (.ref p) H'
theorem op_repA : OpR X (binaryOp .Mult) (rRepA X.K) := by
  intro pins s σ H x y v u Q I rx ry h
  obtain ⟨l, k, xs, rfl, rfl, hT0, hne, h1, h2, hz, q⟩ := h
  by_cases hk : 2 ≤ k
  · exact op_repT pins s σ H _ _ v u Q I rx ry ⟨l, k, xs, rfl, rfl, .inl (.inl hT0), hne, hk, h2, hz, fun p hp => q p _ (same_new hp) upd_same⟩
  · cases rx
    obtain ⟨t, rfl⟩ := ry
    have hT : SqT X.K H l xs := .inl (.inl hT0)
    obtain ⟨its, r, ⟨⟨cls, dd, data, sl⟩, ho, hc, n, hd⟩, hs⟩ := I.tuple hT
    simp only at hc hd
    subst hc hd
    have hle : its.length = xs.length := r.length.symm
    have hi : its.toArray.isEmpty = false := by
      cases its with
      | nil => exact absurd (List.eq_nil_of_length_eq_zero hle.symm) hne
      | cons a b => rfl
    have go : ∀ {R : PySem.Spec}, Meets (Builtin.«tuple.__mul__» ⟨[.ref l, .int k t], []⟩) R → R X.A (wants (EP X pins σ Q) X.xe) s → wpAny (model X.prog X.w) X.A (binaryOp .Mult (.ref l) (.int k t)) (EP X pins σ Q) X.xe s := fun m h => by
      exact wpAny_binaryOp_repeat_ref (T := "tuple") (U := "int") (by decide) ⟨_, ho, rfl⟩ (fun s' => typeIs_int s' k t) noFill_tuple_mul F.fills_int_mul F.slot_int_rmul repeat_tuple F.slot_int_index.lookup
        (call_meets F.slot_int_rmul (typeIs_int s k t) F.entry_int_rmul (F.args_int_rmul_2 _ _) (int_rmul_tuple k t l its.toArray n dd sl)
          ⟨ho, rfl, ⟨_, ho, rfl⟩, call_meets F.slot_tuple_mul ⟨_, ho, rfl⟩ F.entry_tuple_mul (F.args_tuple_mul_2 _ _) m h⟩)
    by_cases h0 : k = 0
    · subst h0
      refine go (tuple_mul0 l its.toArray n dd sl 0 t (by decide) (by rw [hi]; rfl) (by simp)) ⟨ho, ?_⟩
      refine ⟨.ref s.heap.objs.size, _, I.laid (t' := s.toks) (o := .tup []) (fun b ob q => Heap.get?_push_of_some _ q) (Nat.le_refl _) ?_, rfl, q _ _ (same_new (I.hok.fresh (Nat.le_refl _))) upd_same⟩
      exact ⟨by show 0 ≤ sizeLine; decide, [], .nil, IsTup.new _ _⟩
    · obtain rfl : k = 1 := by omega
      refine go (tuple_mul1 l its.toArray n sl dd t) ⟨ho, ?_⟩
      refine ⟨.ref l, H, I, rfl, q l H (Same.refl H) ?_⟩
      rw [show (1 : Int).toNat = 1 from rfl]
      simpa using hT0
end
end CT

/-! enumerate(tuple); a list or a tuple by a flag. -/
namespace CT
open PySem PySem.Spec PySem.Calls PyProof.Rows L2 He
open AutoSeq1 (wpAny_loadPart')
theorem meets_enumerate_newT (l : Addr) (items : Array Value) (n : Nat) (dct : Option Addr) (sl : Array (Option Value)) :
    Meets (Builtin.«enumerate.__new__» ⟨[.type "enumerate", .ref l], []⟩) (fun _ R s => s.heap.get? l = some { cls := .type "tuple", dict := dct, data := .seq items n, slots := sl } ∧
      R (.ok (.ret (.ref (s.heap.push { cls := .type "tuple_iterator", data := .fields #[.ref l, .int 0 0] }).objs.size)))
        { s with heap := (s.heap.push { cls := .type "tuple_iterator", data := .fields #[.ref l, .int 0 0] }).push { cls := .type "enumerate", data := .fields #[.none, .bool false, .ref s.heap.objs.size, rawInt 0, .none, .none] } }) :=
  .of_wp fun prog w A R s h => by
    obtain ⟨hp, g, d, tk, os⟩ := s; obtain ⟨hl, h⟩ := h
    have hsub := sub_enumerate
    have hL : Heap.IsTuple (Shared.heap ⟨hp, g, d, tk, os⟩) l items := ⟨_, hl, rfl, n, rfl⟩
    wp_walk using wpAny_loadPart' hl
    refine wpAny_stack_any fun st => wpAny_pure ?_
    split
    · rename_i c _ _ _ _ _
      cases (c == Value.type "enumerate")
      · wp_walk using wpAny_loadPart' hl, wpAny_pyIter_tuple hL
        exact ⟨_, rfl, h⟩
      · wp_walk using wpAny_loadPart' hl, wpAny_pyIter_tuple hL
        exact ⟨_, rfl, h⟩
    · wp_walk using wpAny_loadPart' hl, wpAny_pyIter_tuple hL
      exact ⟨_, rfl, h⟩
section
variable {prog : Program} {w : World} {A : Around} {E : Value → Shared → Prop} {s : Shared}
theorem call_enumerate_tup {l : Addr} {items : Array Value} {Q : Value → Shared → Prop} (hL : s.heap.IsTuple l items)
    (h : ∀ h', IsEnum h' (s.heap.objs.size + 1) s.heap.objs.size 0 .none → h'.IsTupleIter s.heap.objs.size l 0 → h'.objs.size = s.heap.objs.size + 2 →
      (∀ b o, s.heap.get? b = some o → h'.get? b = some o) → Q (.ref (s.heap.objs.size + 1)) { s with heap := h' }) :
    wpAny (model prog w) A (call (.type "enumerate") [.ref l]) Q E s := by
  obtain ⟨⟨c, dct, dt, sl⟩, hl, hc, n, hd⟩ := hL
  replace hc : c = .type "tuple" := hc
  replace hd : dt = .seq items n := hd
  subst hc hd
  refine callType_new F.called_enumerate (by decide) (F.typeCall_enumerate_1 _) (F.newCall_enumerate_1 _) (fun obj => F.args_object_init_2 obj _) F.entry_enumerate_new
    (meets_enumerate_newT l items n dct sl) ⟨hl, ?_⟩
  have hz : (s.heap.push { cls := .type "tuple_iterator", data := .fields #[.ref l, .int 0 0] }).objs.size = s.heap.objs.size + 1 := Heap.size_push ..
  show _ ∧ _
  rw [hz]
  have he : IsEnum ((s.heap.push { cls := .type "tuple_iterator", data := .fields #[.ref l, .int 0 0] }).push
      { cls := .type "enumerate", data := .fields #[.none, .bool false, .ref s.heap.objs.size, rawInt 0, .none, .none] }) (s.heap.objs.size + 1) s.heap.objs.size 0 .none := by
    have := Heap.get?_push_size (s.heap.push { cls := .type "tuple_iterator", data := .fields #[.ref l, .int 0 0] })
      (o := { cls := .type "enumerate", data := .fields #[.none, .bool false, .ref s.heap.objs.size, rawInt 0, .none, .none] }) rfl
    rw [hz] at this; exact this
  refine ⟨⟨_, he, rfl⟩, h _ he ⟨_, Heap.get?_push_of_some _ (Heap.get?_push_size _ rfl), rfl, rfl⟩ (by rw [Heap.size_push, hz]) fun b o x => Heap.get?_push_of_some _ (Heap.get?_push_of_some _ x)⟩
theorem next_enum_endT {e it l : Addr} {i : Nat} {items : Array Value} {old : Value} {Q : Option Value → Shared → Prop} (hh : A.handled = none)
    (he : IsEnum s.heap e it i old) (hit : s.heap.IsTupleIter it l i) (hl : s.heap.IsTuple l items) (hx : items[i]? = none)
    (hQ : ∀ h', Heap.ExtBut it s.heap h' → Q none { s with heap := h' }) : wpAny (model prog w) A (pyNext (.ref e)) Q E s := by
  have hT : s.TypeIs (.ref e) "enumerate" := ⟨_, he, rfl⟩
  unfold pyNext
  refine wpAny_bind (wpAny_attempt (wpAny_callSpecial?_slot (name := Str.ofString "__next__") hT F.slot_enumerate_next
    (wpAny_call_entry F.slot_enumerate_next hT F.entry_enumerate_next ?_ (F.args_enumerate_next_1 _))))
  show wpAny _ _ (field (.ref e) 2 >>= _) _ _ _
  refine wpAny_bind (wpAny_field he rfl (x := .ref it) rfl ?_)
  refine wpAny_bind (wpAny_nextOf_tuple_end hh hit hl hx fun h' x he' hx' => ?_)
  obtain ⟨o, ho, hc⟩ := hx'
  refine wpAny_bind (wpAny_isInstance (T := "StopIteration") (b := true) ⟨o, ho, hc⟩ isSubtype_stop ?_)
  exact wpAny_pure (hQ _ he')
end
/-- the tuple at a, each item in a new pair with its number -/
def IteT (K : PySem.W.Frag) (a : Addr) : It :=
  ⟨fun i H => ∃ (xs : List V) (x : V), SqT K H a xs ∧ xs[i]? = some x, fun i H v H' => ∃ T x, v = .ref T ∧ H T = none ∧ H' = upd H T (.tup [.int (i : Nat), x]) ∧ ∀ xs, SqT K H a xs → xs[i]? = some x, fun i H => ∃ xs : List V, SqT K H a xs ∧ xs.length ≤ i⟩
theorem turn_enumT {P : Program} {w : World} {K : PySem.W.Frag} {elts : List Expr} {kk : Nat} {tpos : Pos} (a e it : Addr) (hae : a ≠ it) (hea : e ≠ a) :
    Turn P w K (.Tuple elts kk tpos) (IteT K a) [e, it] e (fun i h => (∃ old, IsEnum h e it ((i : Nat) : Int) old) ∧ h.IsTupleIter it a i ∧ e ≠ it) where
  mem := by simp
  obj := fun i h st b hb => by
    obtain ⟨⟨old, he⟩, ⟨o, ho, hc, hd⟩, _⟩ := st
    have e' : b = e ∨ b = it := by simpa using hb
    rcases e' with z | z
    · rw [z]; exact ⟨_, he, fun v q => nomatch q⟩
    · rw [z]; exact ⟨o, ho, fun v q => by rw [hd] at q; cases q⟩
  keep := fun i h h' st k => let ⟨⟨old, he⟩, hi, hne⟩ := st; ⟨⟨old, k e (by simp) _ he⟩, hi.at fun o q => k it (by simp) o q, hne⟩
  item := by
    intro X hP hw hK hc i pins s σ H E I hf st hg
    subst hP hw hK
    obtain ⟨⟨old, he⟩, hit, hne⟩ := st
    obtain ⟨xs, x, hq, hx⟩ := hg
    obtain ⟨its, rv, p, hz⟩ := I.tuple hq
    obtain ⟨u, hu, ru⟩ := rv.get hx
    have hel : e < s.heap.objs.size := Heap.lt_size he
    have hil : it < s.heap.objs.size := by obtain ⟨_, q, _⟩ := hit; exact Heap.lt_size q
    have hsz : i < its.toArray.size := by
      rw [List.size_toArray]
      exact (List.getElem?_eq_some_iff.mp hu).1
    refine wpAny_pyNext_enum_itemD (Draws.tuple (A := X.A.in1) (I.ok.hd hc) it a hae its.toArray) he ⟨hit, p⟩ hsz hne (by simp [hne, hea]) fun x' h' tk hx' ho hit' hT hsz' hk => ?_
    obtain rfl : u = x' := by
      have h1 : its[i]? = some x' := by simpa using hx'
      rw [hu] at h1
      exact Option.some.inj h1
    refine ⟨_, rfl, wpAny_letOwnedTupleGo_enum (s := { s with heap := h', toks := tk + 1 }) ho fun h'' he' sb => ?_⟩
    have hT2 : h''.get? s.heap.objs.size = some { cls := .type "tuple", data := .seq #[.int i tk, u] } := (sb.2 _ (Nat.ne_of_gt hel)).trans hT
    have new : ObjOk X.prog X.w (upd H s.heap.objs.size (.tup [.int (i : Nat), x])) h'' s.heap.objs.size (.tup [.int (i : Nat), x]) :=
      ⟨by show 2 ≤ sizeLine; decide, [.int i tk, u], .cons ⟨_, rfl⟩ (.cons ru .nil), ⟨_, hT2, rfl, _, rfl⟩⟩
    have I1 : Inv X pins σ (upd H s.heap.objs.size (.tup [.int (i : Nat), x])) { s with heap := h'', toks := tk + 1 } :=
      I.turnedNew (ch := [e, it]) (fun b ob hb q => (sb.2 b (fun z => hb (by simp [z]))).trans (hk b ob (fun z => hb (by simp [z])) (fun z => hb (by simp [z])) q)) hf (Nat.le_refl _) new
    refine ⟨.ref s.heap.objs.size, _, I1, rfl, ⟨_, x, rfl, I.hok.fresh (Nat.le_refl _), rfl, fun ys hy => by rw [I.tuple_inj hy hq]; exact hx⟩, ⟨⟨u, ?_⟩, hit'.1.at fun o q => (sb.2 it (Ne.symm hne)).trans q, hne⟩, fun b hb => ?_⟩
    · have e1 : ((i + 1 : Nat) : Int) = (i : Int) + 1 := by omega
      rw [e1]; exact he'
    · have hb' : b < s.heap.objs.size := by
        have e' : b = e ∨ b = it := by simpa using hb
        rcases e' with z | z
        · rw [z]; exact hel
        · rw [z]; exact hil
      rw [upd_ne (Nat.ne_of_lt hb')]
      exact (hf b hb).1
  done := by
    intro X hP hw hK hc i pins s σ H E I hf st hg
    subst hP hw hK
    obtain ⟨⟨old, he⟩, hit, hne⟩ := st
    obtain ⟨xs, hq, hx⟩ := hg
    obtain ⟨its, rv, p, hz⟩ := I.tuple hq
    obtain ⟨f0, f1, f2, f3, f4, f5⟩ := hf it (by simp)
    have hl := rv.length
    exact next_enum_endT (I.ok.hd hc) he hit p (by simp; omega) fun h' eb => ⟨rfl, I.turned (t' := s.toks) (fun b o hb q => eb b o hb q) f0 f1 f3 f4 f5⟩
  self := fun A i s Q E st h => let ⟨⟨_, he⟩, _⟩ := st; wpAny_pyIter_enum he h
/-- a list or a tuple -/
def SqB (K : PySem.W.Frag) (b : Bool) (H : Hp) (a : Addr) (xs : List V) : Prop := if b = true then SqT K H a xs else SqL K H a xs
theorem SqB.l {K : PySem.W.Frag} {H : Hp} {a : Addr} {xs : List V} (h : SqL K H a xs) : ∃ b, SqB K b H a xs := ⟨false, h⟩
theorem SqB.t {K : PySem.W.Frag} {H : Hp} {a : Addr} {xs : List V} (h : SqT K H a xs) : ∃ b, SqB K b H a xs := ⟨true, h⟩
theorem SqB.same {K : PySem.W.Frag} {b : Bool} {H H' : Hp} {a : Addr} {xs : List V} (s : Same H H') (h : SqB K b H a xs) : SqB K b H' a xs := by
  cases b with
  | false => exact sqL_same s h
  | true => exact sqT_same s h
theorem SqB.or {K : PySem.W.Frag} {b : Bool} {H : Hp} {a : Addr} {xs : List V} (h : SqB K b H a xs) : SqL K H a xs ∨ SqT K H a xs := by
  cases b with
  | false => exact .inl h
  | true => exact .inr h
def IteB (K : PySem.W.Frag) (b : Bool) (a : Addr) : It := match b with | true => IteT K a | false => Ite K a
theorem walk_enumB {K : PySem.W.Frag} {b : Bool} {a : Addr} {xs : List V} : Walk (IteB K b a) xs.length (fun H => SqB K b H a xs) (YPair (fun i => some (.int (i : Nat))) (fun i => xs[i]?)) := by
  cases b with
  | false => exact walk_enum
  | true =>
    refine ⟨fun i _ hi q => ⟨xs, xs[i], q, by simp [hi]⟩, fun _ q => ⟨xs, q, Nat.le_refl _⟩, fun i H v H' _ q y => ?_⟩
    obtain ⟨T, x, h1, h2, h3, h4⟩ := y
    exact ⟨T, .int (i : Nat), x, h1, h2, h3, rfl, h4 xs q⟩
def iEnumB (K : PySem.W.Frag) (ta : TA) : TI := fun σ H R => ta σ H fun vs H1 => ∃ b a xs, vs = [.ref a] ∧ SqB K b H1 a xs ∧ R (IteB K b a) H1
theorem pi_enumB {X : Cx} {e : Expr} {ta : TA} {p pos tpos : Pos} {elts : List Expr} {kk : Nat} (hg : Gl X "enumerate") (hm : X.mg "enumerate" = none) (ha : PA X [e] ta) (hs : starEach [e] X.env = [(false, eval e X.env)] := by rfl) :
    PI X (.Tuple elts kk tpos) (.Call (.Name "enumerate" p) [e] [] pos) (iEnumB X.K ta) := by
  refine ⟨fun pins s σ H R I h => ?_⟩
  refine Call_ (ld_blt I hg hm boot_enumerate (PyProof.Rows.callWith_type1 (thn (ha.run pos pins s σ H _ I h) fun us s1 ⟨vs, H1, I1, r1, q1⟩ => ?_) hs rfl))
  obtain ⟨b, a, xs, ex, hq, q⟩ := q1
  subst ex
  cases r1 with
  | cons r rr =>
    cases rr
    cases r
    have hsz : ∀ c, c ∈ [s1.heap.objs.size + 1, s1.heap.objs.size] → s1.heap.objs.size ≤ c := fun c hb => by
      have e' : c = s1.heap.objs.size + 1 ∨ c = s1.heap.objs.size := by simpa using hb
      rcases e' with z | z
      · rw [z]; exact Nat.le_add_right _ _
      · rw [z]; exact Nat.le_refl _
    cases b with
    | false =>
      obtain ⟨its, rv, p', hz⟩ := I1.list hq
      refine call_enumerate_list p'.isList fun h' he hit hsz' hk => wpAny_pyIter_enum he ?_
      have I2 : Inv X pins σ H1 { s1 with heap := h' } := I1.kept (t' := s1.toks) hk
      exact ⟨s1.heap.objs.size + 1, [s1.heap.objs.size + 1, s1.heap.objs.size], _, _, H1, rfl, I2, turn_enum a (s1.heap.objs.size + 1) s1.heap.objs.size, ⟨⟨.none, he⟩, hit, Nat.succ_ne_self _⟩, fun b hb => I1.fpOk (hsz b hb) (I1.hok.fresh (hsz b hb)), q⟩
    | true =>
      obtain ⟨its, rv, p', hz⟩ := I1.tuple hq
      have hlt : a < s1.heap.objs.size := by obtain ⟨_, e, _⟩ := p'; exact Heap.lt_size e
      refine call_enumerate_tup p' fun h' he hit hsz' hk => wpAny_pyIter_enum he ?_
      have I2 : Inv X pins σ H1 { s1 with heap := h' } := I1.kept (t' := s1.toks) hk
      exact ⟨s1.heap.objs.size + 1, [s1.heap.objs.size + 1, s1.heap.objs.size], _, _, H1, rfl, I2, turn_enumT a (s1.heap.objs.size + 1) s1.heap.objs.size (Nat.ne_of_lt hlt) (Nat.ne_of_gt (Nat.lt_succ_of_lt hlt)), ⟨⟨.none, he⟩, hit, Nat.succ_ne_self _⟩, fun b hb => I1.fpOk (hsz b hb) (I1.hok.fresh (hsz b hb)), q⟩
end CT

/-! bool(x) by the class's own __bool__. -/
namespace CT
open PySem PySem.Spec PySem.Calls PyProof.Rows L2 He
theorem meets_bool_any {prog : Program} {w : World} {x : Value} : MeetsIn prog w (Builtin.«bool.__new__» ⟨[.type "bool", x], []⟩) (fun A R s => wpAny (model prog w) A.in1 (truthy x) (fun b s' => R (.ok (.ret (.bool b))) s') (fun e s' => R (.error e) s') s) :=
  .of_wp fun A R s h => by
    have f1 := F.conv_sub_bool
    repeat (any_goals (first | assumption | wp_step))
    refine wpAny_mono (show wpAny (model prog w) A.in1 (truthy x) _ _ s from h) (fun b s' hb => ?_) (fun e s' he => he)
    exact wpAny_pure ⟨_, rfl, hb⟩
section
variable {X : Cx} {CX : CXT} {k : Nat} {C f : Addr} {ps : List Str} {sp : Sp} {E : XK}
/-- bool(x) by the class's own __bool__ -/
def rBoolOwn (C : Addr) (sp : Sp) (E : XK) : List V → Hp → VK → Prop := fun xs H Q => ∃ a dx fs, xs = [.ref a] ∧ H a = some (.ins C dx fs) ∧ sp [.ref a] H (fun z H' => ∃ b, z = .bl b ∧ Q (.bl b) H') E
theorem call_boolOwn (hm : Meth X.K C "__bool__" f) (F : MOk CX X.prog X.w X.K X.mg X.base k f ps sp) (hx : Passes CX X E) (hr : Room (k + 2) X.A) : CallR X (.type "bool") (rBoolOwn C sp E) := by
  intro pins s σ H xs us Q I rs h
  obtain ⟨a, dx, fs, rfl, ha, q⟩ := h
  cases rs with
  | cons rx rs =>
    cases rs
    cases rx
    obtain ⟨oa, da, Ja⟩ := ins_at I ha
    obtain ⟨mm, hF⟩ := I.fr
    refine callType_newIn PySem.F.called_bool PySem.F.newNe_bool (PySem.F.typeCall_bool_1 _) (PySem.F.newCall_bool_1 _) (fun obj => PySem.F.args_object_init_2 obj _) PySem.F.entry_bool_new meets_bool_any ?_
    refine PySem.W.truthy_K hF I.ok.mod.kin Ja hm.at_ hm.fn (thn (run_own (A := X.A.in1.in1) (us := [.ref a]) (vs := [.ref a]) F hr.in1.in1 rfl hx I (.cons rfl .nil) q) fun w s' ⟨z, H', I', rz, b, ez, qz⟩ => ?_)
    subst ez
    obtain rfl : w = Value.bool b := rz
    exact ⟨rfl, .bl b, H', I', rfl, qz⟩
end
end CT

/-! max(a list of ints, default=d). -/
namespace CT
open PySem PySem.Spec PySem.Calls PyProof.Rows L2 He
theorem fold_max (ys : List Int) : ∀ x : Int, (ys.foldl (fun a y => if decide (a < y) = true then y else a) x ∈ x :: ys) ∧ ∀ z ∈ x :: ys, z ≤ ys.foldl (fun a y => if decide (a < y) = true then y else a) x := by
  induction ys with
  | nil => intro x; exact ⟨List.mem_singleton.mpr rfl, fun z hz => by rw [List.mem_singleton.mp hz]; exact Int.le_refl _⟩
  | cons y ys ih =>
    intro x
    rw [List.foldl_cons]
    obtain ⟨h1, h2⟩ := ih (if decide (x < y) = true then y else x)
    refine ⟨?_, fun z hz => ?_⟩
    · rcases List.mem_cons.mp h1 with h | h
      · rw [h]
        split
        · simp
        · simp
      · exact List.mem_cons_of_mem _ (List.mem_cons_of_mem _ h)
    · have hx : x ≤ (if decide (x < y) = true then y else x) ∧ y ≤ (if decide (x < y) = true then y else x) := by
        by_cases hxy : x < y
        · simp [hxy]; omega
        · simp [hxy]; omega
      have h0 := h2 _ (List.mem_cons_self)
      rcases List.mem_cons.mp hz with rfl | hz
      · omega
      · rcases List.mem_cons.mp hz with rfl | hz
        · omega
        · exact h2 z (List.mem_cons_of_mem _ hz)
section
variable {X : Cx}
/-- max(xs, default=d), xs a list of ints -/
def rMaxDef (K : PySem.W.Frag) : List V → List V → Hp → VK → Prop := fun vs zs H Q => ∃ (a : Addr) (ns : List Int) (d : Int), vs = [.ref a] ∧ zs = [.int d] ∧ SqL K H a (ns.map V.int) ∧ ∀ m, (ns = [] → m = d) → (ns ≠ [] → m ∈ ns ∧ ∀ y ∈ ns, y ≤ m) → Q (.int m) H
theorem cr_maxDef (hc : X.calm = true) (hu : X.A.units + 1 < cLine) : CallRK X (.builtin "max") [Str.ofString "default"] (rMaxDef X.K) := by
  intro pins s σ H vs zs us ws Q I r rz h
  obtain ⟨a, ns, d, rfl, rfl, hs, q⟩ := h
  obtain rfl := Vals.ref1 r
  obtain ⟨w1, rfl, e1⟩ := vals1 rz
  obtain ⟨t, rfl⟩ := (show ∃ t, w1 = Value.int d t from e1)
  obtain ⟨its, rv, hl, hz⟩ := I.list hs
  refine PySem.W.max_list_datum_default (α := Int) (vs := its.toArray) (xs := ns) (I.ok.hd hc) hl.isList (PySem.W.HoldAll.of_ints rv.ints) (by show X.A.units + 1 + 0 < cLine; omega) (fun e h' tk hk => ?_) (fun y ys i v h' tk e hi hv hk => ?_)
  · exact ⟨.int d, H, I.kept hk, ⟨_, rfl⟩, q d (fun _ => rfl) fun n => absurd e n⟩
  · have hi2 : its[i]? = some v := by simpa using hi
    obtain ⟨x, hx, rx⟩ : ∃ x, (ns.map V.int)[i]? = some x ∧ RelV x v := by
      have hlt : i < (ns.map V.int).length := by
        rw [rv.length]
        exact (List.getElem?_eq_some_iff.mp hi2).1
      obtain ⟨u, hu', ru⟩ := rv.get (List.getElem?_eq_getElem hlt)
      rw [hi2] at hu'
      cases hu'
      exact ⟨_, List.getElem?_eq_getElem hlt, ru⟩
    rw [List.getElem?_map] at hx
    obtain ⟨z, hz2, rfl⟩ := Option.map_eq_some_iff.mp hx
    obtain ⟨t', rfl⟩ := (show ∃ t, v = Value.int z t from rx)
    obtain ⟨as, hr⟩ := hv
    have ez : PySem.W.maxOf y ys = z := by
      have hr2 : Reads h' (.int z t') (.int (PySem.W.maxOf y ys)) as := hr
      cases hr2
      rfl
    have e3 : PySem.W.maxOf y ys = ys.foldl (fun a y => if decide (a < y) = true then y else a) y := rfl
    obtain ⟨f1, f2⟩ := fold_max ys y
    rw [← e3, ez, ← e] at f1 f2
    exact ⟨.int z, H, I.kept hk, ⟨_, rfl⟩, q z (fun e' => by rw [e] at e'; cases e') fun _ => ⟨f1, f2⟩⟩
end
end CT

/-! max(d, key=f), d a dict whose keys are tuples, f the key that orders. -/
namespace CT
open PySem PySem.Spec PySem.Calls PyProof.Rows L2 He PySem.W
/-- x stands below y -/
def ltK (x y : Mono) : Bool := dataLt (ordKey x) (ordKey y)
theorem ltK_irrefl (x : Mono) : ltK x x = false := lex_irrefl (O := itemOrd) _
theorem ltK_trans {x y z : Mono} (h : ltK x y = true) (g : ltK y z = true) : ltK x z = true := lex_trans (O := itemOrd) _ _ _ h g
section
variable {X : Cx} {pins : List (Addr × Obj)} {σ : L2.St} {H : Hp} {s : Shared}
theorem max_loop_in {A : Around} {k : Nat} {f d I S : Nat} {fd : FuncData} {ps : List Str} {items : List Row} {o : Obj} {u : HO} {es : Array DictEntry} {ep : Nat} {R : Result → Shared → Prop} {kw : List (Str × Value)}
    (F : FnOk X.prog X.w X.K X.mg X.base CX0 k f fd ps (spOrd X.K)) (hb : L2.Binds X.K fd ps []) (hr : Room k A.in1) (fr : A.in1.frames = X.A.frames) (hh : A.in1.handled = none) (hod : o.data = .dict es ep) (hIS : S ≠ I) (hdS : d ≠ S) (hdI : d ≠ I)
    (hn : es.size = items.length) (hP : ∀ (i : Nat) (en : DictEntry), es[i]? = some en → ∃ it, items[i]? = some it ∧ en.key = .ref it.1) (hi : ∀ it ∈ items, SqT X.K H it.1 (it.2.map V.int)) (hd : H d = some (.frz o u))
    (hR : ∀ it s' H', it ∈ items → (∀ z ∈ items, ltK it.2 z.2 = false) → Inv X pins σ H' s' → Same H H' → R (.ok (.ret (.ref it.1))) s') :
    ∀ (r j : Nat) (s : Shared) (H' : Hp) (it : Row) (kp c : Addr), es.size - (j + 1) = r → j + 1 ≤ es.size → Inv X pins σ H' s → Same H H' → FpOk X pins H' S → FpOk X pins H' I → s.heap.IsKeyIter I d (j + 1) es.size ep → it ∈ items → H' kp = some (.tup [.int it.2.sum, .ref it.1]) →
      s.heap.get? S = some (seqObj "list" #[.ref it.1, .ref kp] c) → (∀ i z, i ≤ j → items[i]? = some z → ltK it.2 z.2 = false) → codeAny (model X.prog X.w) A (.builtin "max.loop" ⟨[.ref I, .ref f, .ref S], kw⟩) R s := by
  have hname : (toString "max" ++ toString ".loop" : String) = "max.loop" := by decide
  have W := walks_raw (prog := X.prog) (w := X.w) (A := A.in1) hh I d hdI hod
  have noc : ∀ (xs : Array Value) (n : Nat) (v : Option Value), (seqObj "list" xs n).data ≠ .cell v := fun xs n v z => by cases z
  intro r
  induction r with
  | zero =>
    intro j s H' it kp c hk hj J sm fS fI hst hit hkp hS best
    have hin : j + 1 = es.size := by omega
    have hod' := (J.hok d _ (sm _ _ hd)).1
    refine codeAny_builtin PySem.F.entry_max_loop ?_
    rw [Around.under_plainId PySem.F.plain_max_loop _]
    show wpAny _ A.in1 (seqItems? (.ref S) >>= _) _ _ s
    refine wpAny_bind (wpAny_seqItems hS rfl ?_)
    show wpAny _ A.in1 (tryCatch (pyNext (.ref I)) _ >>= _) _ _ s
    refine wpAny_bind (wpAny_tryCatch (W.done s _ _ ⟨by rw [← hin]; exact hin ▸ hst, hod'⟩ fun h' tk' hk' => ?_))
    have hS' := hk' S _ (by simpa using hIS) hS
    have J1 : Inv X pins σ H' { s with heap := h', toks := tk' } := J.turned (t' := tk') (fun b o hb e => hk' b o (by simpa using hb) e) fI.1 fI.2.1 fI.2.2.2.1 fI.2.2.2.2.1 fI.2.2.2.2.2
    show wpAny _ A.in1 (updateSeq S (fun _ => #[]) >>= _) _ _ _
    refine wpAny_bind ?_
    refine wpAny_updateSeq hS' rfl (wpAny_bind (wpAny_letGo (wpAny_pure ?_)))
    refine hR it _ H' hit (fun z hz => ?_) (J1.turned (t' := tk') (fun b o hb e => (Heap.get?_update_other _ _ (Ne.symm hb)).trans e) fS.1 fS.2.1 fS.2.2.2.1 fS.2.2.2.2.1 fS.2.2.2.2.2) sm
    obtain ⟨i, hi1⟩ := List.mem_iff_getElem?.mp hz
    have : i < items.length := (List.getElem?_eq_some_iff.mp hi1).1
    exact best i z (by omega) hi1
  | succ r ih =>
    intro j s H' it kp c hk hj J sm fS fI hst hit hkp hS best
    have hlt : j + 1 < es.size := by omega
    have hod' := (J.hok d _ (sm _ _ hd)).1
    refine codeAny_builtin PySem.F.entry_max_loop ?_
    rw [Around.under_plainId PySem.F.plain_max_loop _]
    show wpAny _ A.in1 (seqItems? (.ref S) >>= _) _ _ s
    refine wpAny_bind (wpAny_seqItems hS rfl ?_)
    show wpAny _ A.in1 (tryCatch (pyNext (.ref I)) _ >>= _) _ _ s
    refine wpAny_bind (wpAny_tryCatch (W.item (j + 1) s _ _ hlt ⟨hst, hod'⟩ fun v h' tk' hv hst' hk' => ?_))
    obtain ⟨en, hen, rfl⟩ := hv
    obtain ⟨it2, hit2, ek⟩ := hP _ _ hen
    rw [ek]
    have hm2 := List.mem_of_getElem? hit2
    have hS' := hk' S _ (by simpa using hIS) hS
    have J1 : Inv X pins σ H' { s with heap := h', toks := tk' } := J.turned (t' := tk') (fun b o hb e => hk' b o (by simpa using hb) e) fI.1 fI.2.1 fI.2.2.2.1 fI.2.2.2.2.1 fI.2.2.2.2.2
    obtain ⟨oI, hoI, hoc, hoD⟩ := hst'.1
    have nocI : ∀ v, oI.data ≠ .cell v := fun v z => by
      rw [hoD] at z
      cases z
    have J2 : Inv X ((S, seqObj "list" #[.ref it.1, .ref kp] c) :: (I, oI) :: pins) σ H' { s with heap := h', toks := tk' } := J1.pins_of fun p hp => by
      rcases List.mem_cons.mp hp with z | hp
      · rw [z]
        exact ⟨hS', fS.1, fS.2.1, fS.2.2.1, noc _ _⟩
      rcases List.mem_cons.mp hp with z | hp
      · rw [z]
        exact ⟨hoI, fI.1, fI.2.1, fI.2.2.1, nocI⟩
      · exact J1.pin p (List.mem_append_right _ hp)
    show wpAny _ A.in1 (tryCatch (holding [.ref it2.1] (call (.ref f) [.ref it2.1])) _ >>= _) _ _ _
    refine wpAny_bind (wpAny_tryCatch (wpAny_holding (wpAny_mono (call_in (E := fun _ _ => False) (Q := fun v H2 => ∃ p, v = .ref p ∧ Same H' H2 ∧ H2 p = some (.tup [.int it2.2.sum, .ref it2.1])) (us := [.ref it2.1]) (vs := [.ref it2.1]) F hb hr fr J2 (.cons rfl .nil) ⟨it2.1, it2.2, rfl, same_sqT sm (hi it2 hm2), fun p H2 s2 e2 => ⟨p, rfl, s2, e2⟩⟩) (fun v s2 hv => ?_) fun _ _ hF => hF.elim)))
    obtain ⟨v0, H2, J3, rv, kp2, rfl, sm2, hkp2⟩ := hv
    obtain rfl : v = Value.ref kp2 := rv
    have pS := J3.pin (S, seqObj "list" #[.ref it.1, .ref kp] c) (List.mem_append_right _ List.mem_cons_self)
    have pI := J3.pin (I, oI) (List.mem_append_right _ (List.mem_cons_of_mem _ List.mem_cons_self))
    have fS2 : FpOk X pins H2 S := ⟨pS.2.1, fS.2⟩
    have fI2 : FpOk X pins H2 I := ⟨pI.2.1, fI.2⟩
    have J4 : Inv X pins σ H2 s2 := J3.pins_of fun r hr => J3.pin r (List.mem_append_right _ (List.mem_cons_of_mem _ (List.mem_cons_of_mem _ hr)))
    have sm3 := sm.trans sm2
    have hst2 : s2.heap.IsKeyIter I d (j + 1 + 1) es.size ep := ⟨oI, pI.1, hoc, hoD⟩
    obtain ⟨a1, ra⟩ := Dp.reads J4 (ordKey it2.2) (.ref kp2) (.ref kp2) (.tup (.inl (.of hkp2)) (.cons (.int _) (.cons (.tup (same_sqT sm3 (hi it2 hm2)) (dp_ints _)) .nil))) rfl
    obtain ⟨a2, rb⟩ := Dp.reads J4 (ordKey it.2) (.ref kp) (.ref kp) (.tup (.inl (.of (sm2 _ _ hkp))) (.cons (.int _) (.cons (.tup (same_sqT sm3 (hi it hit)) (dp_ints _)) .nil))) rfl
    show wpAny _ A.in1 (tryCatch (holding [.ref it2.1, .ref kp2] (richCompare .Gt (.ref kp2) (.ref kp) >>= _)) _ >>= _) _ _ _
    refine wpAny_bind (wpAny_tryCatch (wpAny_holding (wpAny_bind (rcGt_alike _ _ A.in1 s2 _ _ _ _ ra rb (ord_alike _ _) (fun z => by cases z) (by rw [ord_depth, ord_depth]; have := hr.un; omega) _ _ _ _ ?_))))
    refine wpAny_bind (wpAny_holding (wpAny_truthy_bool ?_))
    refine wpAny_bind (wpAny_letGo (wpAny_pure ?_))
    cases hbt : dataLt (ordKey it.2) (ordKey it2.2) with
    | true =>
      simp only [if_true]
      refine wpAny_bind ?_
      refine wpAny_updateSeq pS.1 rfl (wpAny_bind (wpAny_letGo ?_))
      rw [hname]
      obtain ⟨c2, hc2⟩ : ∃ c2, (s2.heap.update S (Obj.mapSeq fun _ => #[Value.ref it2.1, .ref kp2])).get? S = some (seqObj "list" #[.ref it2.1, .ref kp2] c2) := ⟨_, get?_update_seq pS.1 fun _ => #[Value.ref it2.1, .ref kp2]⟩
      refine wpAny_pure ⟨plainId_quiet PySem.F.plain_max_loop _, ih (j + 1) _ H2 it2 kp2 c2 (by omega) hlt (J4.turned (t' := s2.toks) (fun b o hb e => (Heap.get?_update_other _ _ (Ne.symm hb)).trans e) fS2.1 fS2.2.1 fS2.2.2.2.1 fS2.2.2.2.2.1 fS2.2.2.2.2.2) sm3 fS2 fI2 ⟨oI, (Heap.get?_update_other _ _ hIS).trans pI.1, hoc, hoD⟩ hm2 hkp2 hc2 fun i z hi1 hz => ?_⟩
      cases hlz : ltK it2.2 z.2 with
      | false => rfl
      | true =>
        rcases Nat.lt_or_ge j i with h | h
        · obtain rfl : i = j + 1 := by omega
          rw [hit2] at hz
          cases hz
          rw [ltK_irrefl] at hlz
          cases hlz
        · have := ltK_trans (x := it.2) hbt hlz
          rw [best i z h hz] at this
          cases this
    | false =>
      simp only [Bool.false_eq_true, if_false]
      refine wpAny_bind (wpAny_letGo ?_)
      rw [hname]
      refine wpAny_pure ⟨plainId_quiet PySem.F.plain_max_loop _, ih (j + 1) _ H2 it kp c (by omega) hlt J4 sm3 fS2 fI2 hst2 hit (sm2 _ _ hkp) pS.1 fun i z hi1 hz => ?_⟩
      rcases Nat.lt_or_ge j i with h | h
      · obtain rfl : i = j + 1 := by omega
        rw [hit2] at hz
        cases hz
        exact hbt
      · exact best i z h hz
end
section
variable {X : Cx}
/-- max(d, key=f), d frozen -/
def rMaxKD (f : Addr) : List V → List V → Hp → VK → Prop := fun vs zs H Q => ∃ (src : Addr) (o : Obj) (kvs : List (List Int × V)), vs = [.ref src] ∧ zs = [.ref f] ∧ H src = some (.frz o (.dT (kvs.map fun p => (kI p.1, p.2)))) ∧ kvs ≠ [] ∧
  ∀ (q : Addr) (k : List Int) (H' : Hp), k ∈ kvs.map Prod.fst → (∀ z ∈ kvs.map Prod.fst, ltK k z = false) → Same H H' → H q = some (.tup (k.map V.int)) → Q (.ref q) H'
theorem cr_maxKD {k : Nat} {f : Addr} {fd : FuncData} {ps : List Str} (hc : X.calm = true) (F : FnOk X.prog X.w X.K X.mg X.base CX0 k f fd ps (spOrd X.K)) (hb : L2.Binds X.K fd ps []) (hr : Room (k + 2) X.A) : CallRK X (.builtin "max") [Str.ofString "key"] (rMaxKD f) := by
  intro pins s σ H vs zs us ws Q I r rz h
  obtain ⟨src, o, kvs, rfl, rfl, hd, hne, q⟩ := h
  obtain rfl := Vals.ref1 r
  obtain ⟨w1, rfl, e1⟩ := vals1 rz
  obtain rfl : w1 = Value.ref f := e1
  obtain ⟨lo, hgd, hx, es, ep, hdt, hsz, hent⟩ := frzT2 I hd
  rw [List.length_map] at hsz
  obtain ⟨items, ek, hi, hP⟩ : ∃ items : List Row, items.map Prod.snd = kvs.map Prod.fst ∧ (∀ it ∈ items, H it.1 = some (.tup (it.2.map V.int))) ∧ ∀ (i : Nat) (en : DictEntry), es[i]? = some en → ∃ it, items[i]? = some it ∧ en.key = .ref it.1 := by
    have hx2 : ∀ i : Nat, i < kvs.length → ∃ (en : DictEntry) (qa : Addr), es[i]? = some en ∧ en.key = .ref qa ∧ ∀ p, kvs[i]? = some p → H qa = some (.tup (p.1.map V.int)) := fun i hi => by
      obtain ⟨en, qa, z1, z2, z3, z4⟩ := hent i (kI kvs[i].1) kvs[i].2 (by rw [List.getElem?_map, List.getElem?_eq_getElem hi]; rfl)
      refine ⟨en, qa, z1, z2, fun p hp => ?_⟩
      rw [List.getElem?_eq_getElem hi] at hp
      cases hp
      rw [kI_V] at z4
      exact z4
    refine ⟨(List.range kvs.length).map fun i => (((es[i]?.map fun en => match en.key with | .ref a => a | _ => 0).getD 0), (kvs[i]?.map Prod.fst).getD []), ?_, fun it hit => ?_, fun i en hen => ?_⟩
    · rw [List.map_map]
      refine range_map kvs Prod.fst _ fun i x hx => ?_
      show (kvs[i]?.map Prod.fst).getD [] = x.1
      rw [hx]
      rfl
    · obtain ⟨i, hir, rfl⟩ := List.mem_map.mp hit
      have hil := List.mem_range.mp hir
      obtain ⟨en, qa, z1, z2, z3⟩ := hx2 i hil
      have := z3 _ (List.getElem?_eq_getElem hil)
      show H ((es[i]?.map fun en => match en.key with | .ref a => a | _ => 0).getD 0) = some (.tup (((kvs[i]?.map Prod.fst).getD []).map V.int))
      rw [z1, List.getElem?_eq_getElem hil]
      show H (match en.key with | .ref a => a | _ => 0) = some (.tup (kvs[i].1.map V.int))
      rw [z2]
      exact this
    · have hil : i < kvs.length := by
        rw [← hsz]
        exact (Array.getElem?_eq_some_iff.mp hen).1
      obtain ⟨en', qa, z1, z2, z3⟩ := hx2 i hil
      rw [hen] at z1
      cases z1
      refine ⟨_, by rw [List.getElem?_map, List.getElem?_range hil]; rfl, ?_⟩
      show en.key = .ref ((es[i]?.map fun en => match en.key with | .ref a => a | _ => 0).getD 0)
      rw [hen]
      show en.key = .ref (match en.key with | .ref a => a | _ => 0)
      rw [z2]
  have hil : es.size = items.length := by
    have := congrArg List.length ek
    simp at this
    omega
  have hpos : 0 < es.size := by
    rw [hsz]
    exact List.length_pos_iff.mpr hne
  have hname : (toString "max" ++ toString ".loop" : String) = "max.loop" := by decide
  refine PyProof.Rows.kmk_tree PySem.F.kind_max PySem.F.plain_max PySem.F.entry_max (PyProof.Rows.kmk_max_key _ _) ?_
  show wpAny _ X.A.in1 (Builtin.Builtins.bindParams "max" ["key", "default"] 0 ⟨[], [(Str.ofString "key", .ref f)]⟩ >>= _) _ _ s
  refine wpAny_bind (wpAny_of_eq (show Builtin.Builtins.bindParams "max" ["key", "default"] 0 ⟨[], [(Str.ofString "key", .ref f)]⟩ = pure [some (.ref f), none] from rfl) ?_)
  refine wpAny_bind (wpAny_pure ?_)
  refine wpAny_bind (iter_keys lo hgd hx hdt ?_)
  refine wpAny_bind (wpAny_newObj_type ?_)
  rw [hname]
  refine wpAny_pure ⟨plainId_quiet PySem.F.plain_max_loop _, ?_⟩
  obtain ⟨h0, eh0⟩ : ∃ h0, h0 = (s.heap.push { cls := .type "dict_keyiterator", data := .fields #[.ref src, .int 0 0, .int es.size 0, .int ep 0] }) := ⟨_, rfl⟩
  rw [← eh0]
  have hz0 : h0.objs.size = s.heap.objs.size + 1 := by rw [eh0, size_push']
  obtain ⟨I0, eI0⟩ : ∃ I0, I0 = s.heap.objs.size := ⟨_, rfl⟩
  rw [← eI0]
  obtain ⟨S, eS⟩ : ∃ S, S = h0.objs.size := ⟨_, rfl⟩
  rw [← eS]
  have hSI : S ≠ I0 := by rw [eS, hz0, eI0]; exact Nat.succ_ne_self _
  have hlt : src < s.heap.objs.size := Heap.lt_size hgd
  have hdI : src ≠ I0 := by rw [eI0]; exact Nat.ne_of_lt hlt
  have hdS : src ≠ S := by rw [eS, hz0]; exact Nat.ne_of_lt (Nat.lt_succ_of_lt hlt)
  have gI : (h0.push (seqObj "list" #[] 0)).get? I0 = some { cls := .type "dict_keyiterator", data := .fields #[.ref src, .int 0 0, .int es.size 0, .int ep 0] } := by
    refine Heap.get?_push_of_some _ ?_
    rw [eh0, eI0]
    exact Heap.get?_push_size _ rfl
  have gS : (h0.push (seqObj "list" #[] 0)).get? S = some (seqObj "list" #[] 0) := by
    rw [eS]
    exact Heap.get?_push_size _ rfl
  have J0 : Inv X pins σ H { s with heap := h0.push (seqObj "list" #[] 0), toks := s.toks } := I.kept (t' := s.toks) fun b ob e => Heap.get?_push_of_some _ (by rw [eh0]; exact Heap.get?_push_of_some _ e)
  have fI : FpOk X pins H I0 := I.fpOk (by rw [eI0]; exact Nat.le_refl _) (I.hok.fresh (by rw [eI0]; exact Nat.le_refl _))
  have fS : FpOk X pins H S := I.fpOk (by rw [eS, hz0]; exact Nat.le_succ _) (I.hok.fresh (by rw [eS, hz0]; exact Nat.le_succ _))
  have hh : X.A.in1.handled = none := I.ok.hd hc
  have W := walks_raw (prog := X.prog) (w := X.w) (A := X.A.in1) hh I0 src hdI hdt
  have noc : ∀ (xs : Array Value) (n : Nat) (v : Option Value), (seqObj "list" xs n).data ≠ .cell v := fun xs n v z => by cases z
  have hi' : ∀ it ∈ items, SqT X.K H it.1 (it.2.map V.int) := fun it hit => .inl (.of (hi it hit))
  refine codeAny_builtin PySem.F.entry_max_loop ?_
  rw [Around.under_plainId PySem.F.plain_max_loop _]
  show wpAny _ X.A.in1 (seqItems? (.ref S) >>= _) _ _ _
  refine wpAny_bind (wpAny_seqItems gS rfl ?_)
  show wpAny _ X.A.in1 (tryCatch (pyNext (.ref I0)) _ >>= _) _ _ _
  refine wpAny_bind (wpAny_tryCatch (W.item 0 _ _ _ hpos ⟨⟨_, gI, rfl, rfl⟩, (J0.hok src _ hd).1⟩ fun v h' tk' hv hst' hk' => ?_))
  obtain ⟨en, hen, rfl⟩ := hv
  obtain ⟨it2, hit2, ek2⟩ := hP _ _ hen
  rw [ek2]
  have hm2 := List.mem_of_getElem? hit2
  have hS' := hk' S _ (by simpa using hSI) gS
  have J1 : Inv X pins σ H { s with heap := h', toks := tk' } := J0.turned (t' := tk') (fun b o hb e => hk' b o (by simpa using hb) e) fI.1 fI.2.1 fI.2.2.2.1 fI.2.2.2.2.1 fI.2.2.2.2.2
  obtain ⟨oI, hoI, hoc, hoD⟩ := hst'.1
  have nocI : ∀ v, oI.data ≠ .cell v := fun v z => by
    rw [hoD] at z
    cases z
  have J2 : Inv X ((S, seqObj "list" #[] 0) :: (I0, oI) :: pins) σ H { s with heap := h', toks := tk' } := J1.pins_of fun p hp => by
    rcases List.mem_cons.mp hp with z | hp
    · rw [z]
      exact ⟨hS', fS.1, fS.2.1, fS.2.2.1, noc _ _⟩
    rcases List.mem_cons.mp hp with z | hp
    · rw [z]
      exact ⟨hoI, fI.1, fI.2.1, fI.2.2.1, nocI⟩
    · exact J1.pin p (List.mem_append_right _ hp)
  show wpAny _ X.A.in1 (tryCatch (holding [.ref it2.1] (call (.ref f) [.ref it2.1])) _ >>= _) _ _ _
  refine wpAny_bind (wpAny_tryCatch (wpAny_holding (wpAny_mono (call_in (E := fun _ _ => False) (Q := fun v H2 => ∃ p, v = .ref p ∧ Same H H2 ∧ H2 p = some (.tup [.int it2.2.sum, .ref it2.1])) (us := [.ref it2.1]) (vs := [.ref it2.1]) F hb (hr.in1.mono (Nat.le_succ k)) rfl J2 (.cons rfl .nil) ⟨it2.1, it2.2, rfl, hi' it2 hm2, fun p H2 s2 e2 => ⟨p, rfl, s2, e2⟩⟩) (fun v s2 hv => ?_) fun _ _ hF => hF.elim)))
  obtain ⟨v0, H2, J3, rv, kp2, rfl, sm2, hkp2⟩ := hv
  obtain rfl : v = Value.ref kp2 := rv
  have pS := J3.pin (S, seqObj "list" #[] 0) (List.mem_append_right _ List.mem_cons_self)
  have pI := J3.pin (I0, oI) (List.mem_append_right _ (List.mem_cons_of_mem _ List.mem_cons_self))
  have fS2 : FpOk X pins H2 S := ⟨pS.2.1, fS.2⟩
  have fI2 : FpOk X pins H2 I0 := ⟨pI.2.1, fI.2⟩
  have J4 : Inv X pins σ H2 s2 := J3.pins_of fun r hr => J3.pin r (List.mem_append_right _ (List.mem_cons_of_mem _ (List.mem_cons_of_mem _ hr)))
  show wpAny _ X.A.in1 (updateSeq S (fun _ => #[.ref it2.1, .ref kp2]) >>= _) _ _ _
  refine wpAny_bind ?_
  refine wpAny_updateSeq pS.1 rfl ?_
  rw [hname]
  obtain ⟨c2, hc2⟩ : ∃ c2, (s2.heap.update S (Obj.mapSeq fun _ => #[Value.ref it2.1, .ref kp2])).get? S = some (seqObj "list" #[.ref it2.1, .ref kp2] c2) := ⟨_, get?_update_seq pS.1 fun _ => #[Value.ref it2.1, .ref kp2]⟩
  refine wpAny_pure ⟨plainId_quiet PySem.F.plain_max_loop _, max_loop_in (A := X.A) F hb (hr.in1.mono (Nat.le_succ k)) rfl hh hdt hSI hdS hdI hil hP hi' hd (fun it s' H' hit best J sm => ?_) _ 0 _ H2 it2 kp2 c2 rfl hpos (J4.turned (t' := s2.toks) (fun b o hb e => (Heap.get?_update_other _ _ (Ne.symm hb)).trans e) fS2.1 fS2.2.1 fS2.2.2.2.1 fS2.2.2.2.2.1 fS2.2.2.2.2.2) sm2 fS2 fI2 ⟨oI, (Heap.get?_update_other _ _ hSI).trans pI.1, hoc, hoD⟩ hm2 hkp2 hc2 fun i z hi1 hz => ?_⟩
  · refine ⟨.ref it.1, H', J, rfl, q it.1 it.2 H' (by rw [← ek]; exact List.mem_map_of_mem hit) (fun z hz => ?_) sm (hi it hit)⟩
    rw [← ek] at hz
    obtain ⟨w, hw, rfl⟩ := List.mem_map.mp hz
    exact best w hw
  · obtain rfl : i = 0 := by omega
    rw [hit2] at hz
    cases hz
    exact ltK_irrefl _
end
end CT
namespace CT
open PySem PySem.Spec PySem.Calls PyProof.Rows L2 He
section
variable {X : Cx} {n : Str} {ps : List Str} {k j : Nat} {p p1 kp pos : Pos} {e : Expr} {t : TA}
theorem pe_maxKD (hc : X.calm = true) (F : FOk X.prog X.w X.K X.mg X.base k n ps (spOrd X.K)) (hr : Room (k + 2) X.A) (m_max : X.mg "max" = none) (ha : PA X [e] t) (hg : Gl X n := by rfl) (hgs : Gl X "max" := by rfl) (hdb : (n == ("__debug__" : Str)) = false := by decide)
    (h1 : backTo pos (starEach [e] X.env) = (false, eval e X.env) :: backTo pos (starEach [] X.env) := by rfl) (h2 : (backTo pos (starEach [e] X.env)).any (·.1) = false := by rfl)
    (h3 : (backToKw pos (keywordEach [⟨some "key", .Name n p1, kp⟩] X.env)).all (·.1.isSome) = true := by rfl)
    (h4 : (backToKw pos (keywordEach [⟨some "key", .Name n p1, kp⟩] X.env)).any (·.1.isNone) = false := by rfl)
    (h5 : (backToKw pos (keywordEach [⟨some "key", .Name n p1, kp⟩] X.env)).filterMap (·.1) = [Str.ofString "key"] := by rfl) :
    PE X (.Call (.Name "max" p) [e] [⟨some "key", .Name n p1, kp⟩] pos) (tCKw (rMaxKD (ga X.K n)) t (tCons (tC (.ref (ga X.K n))) tNil)) := by
  obtain ⟨g, kp, fd, F, b⟩ := F
  exact pe_callBK (cr_maxKD hc F b hr) hgs m_max (by decide +kernel) ha (pk_cons (pe_gl ⟨_, g, rfl⟩ hg hdb) pk_nil) (by decide) (by decide) h1 h2 h3 h4 h5
theorem pe_maxDef (hc : X.calm = true) (hu : X.A.units + 1 < cLine) (m_max : X.mg "max" = none) (ha : PA X [e] t) {d : Expr} {td : TE} (hd : PE X d td) (hgs : Gl X "max" := by rfl)
    (h1 : backTo pos (starEach [e] X.env) = (false, eval e X.env) :: backTo pos (starEach [] X.env) := by rfl) (h2 : (backTo pos (starEach [e] X.env)).any (·.1) = false := by rfl)
    (h3 : (backToKw pos (keywordEach [⟨some "default", d, kp⟩] X.env)).all (·.1.isSome) = true := by rfl)
    (h4 : (backToKw pos (keywordEach [⟨some "default", d, kp⟩] X.env)).any (·.1.isNone) = false := by rfl)
    (h5 : (backToKw pos (keywordEach [⟨some "default", d, kp⟩] X.env)).filterMap (·.1) = [Str.ofString "default"] := by rfl) :
    PE X (.Call (.Name "max" p) [e] [⟨some "default", d, kp⟩] pos) (tCKw (rMaxDef X.K) t (tCons td tNil)) :=
  pe_callBK (cr_maxDef hc hu) hgs m_max (by decide +kernel) ha (pk_cons hd pk_nil) (by decide) (by decide) h1 h2 h3 h4 h5
end
end CT

/-! Tables of tuple keys compared. -/
namespace CT
open PySem PySem.Spec PySem.Calls PyProof.Rows L2 He PySem.W
def kJ (ks : List L2.Key) : Mono := ks.map fun x => match x with | .inl i => i | .inr _ => 0
theorem kJ_kI (k : Mono) : kJ (kI k) = k := by
  unfold kJ kI
  rw [List.map_map]
  exact List.map_id k
def gF (P : Tab) (ks : List L2.Key) : PyData := fracF ((gt P (kJ ks)).num, ((gt P (kJ ks)).den : Int))
theorem Ents.dat {K : PySem.W.Frag} {H : Hp} {l : List (Mono × Addr)} {P : Tab} (h : Ents K H l P) (nd : (keysT P).Nodup) : DatT K H (gF P) (l.map ent) := fun p hp => by
  obtain ⟨x, hx, rfl⟩ := List.mem_map.mp hp
  obtain ⟨j, hj⟩ := List.mem_iff_getElem?.mp hx
  obtain ⟨q, e1, e2⟩ := h.at hj
  have e3 := gt_mem nd (List.mem_of_getElem? e1)
  refine ⟨?_, enc_frac.sh (by decide) _⟩
  show Dp K H (.ref x.2) (fracF ((gt P (kJ (kI x.1))).num, ((gt P (kJ (kI x.1))).den : Int)))
  rw [kJ_kI, show gt P x.1 = q from e3]
  exact dp_frac e2
theorem same_nil {f g : List L2.Key → PyData} {K : PySem.W.Frag} {H : Hp} {l : List (Mono × Addr)} {P : Tab} (h : Ents K H l P) : sameT f g (l.map ent) [] = P.isEmpty := by
  unfold sameT
  have e := h.length
  cases l with
  | nil =>
    cases P with
    | nil => rfl
    | cons => cases e
  | cons =>
    cases P with
    | nil => cases e
    | cons => rfl
end CT

/-! Rows told twice hold equal data. -/
namespace CT
open PySem PySem.Spec PySem.Calls PyProof.Rows L2 He PySem.W
section
variable {K : PySem.W.Frag} {H : Hp}
theorem eqA_ints (n : Nat) : ∀ es : List Int, EqA K H n (es.map V.int) (es.map V.int)
  | [] => trivial
  | e :: es => ⟨EqD.flat rfl, eqA_ints n es⟩
theorem RowAt.eqd {s t : Addr} {r : Raw} (h : RowAt K H s r) (g : RowAt K H t r) (hz : r.1.length ≤ 10000) : EqD K H 2 (.ref s) (.ref t) := by
  obtain ⟨p, v, h1, h2, h3⟩ := h
  obtain ⟨q, u, g1, g2, g3⟩ := g
  exact eqT h1 g1 ⟨eqT (.inl (.inl h2)) (.inl (.inl g2)) (eqA_ints 0 r.1) (by rw [List.length_map]; exact hz), eqT h3 g3 ⟨EqD.flat rfl, EqD.flat rfl, trivial⟩, trivial⟩
theorem RowsAt.eqA {as : List Addr} {rs : List Raw} (h : RowsAt K H as rs) : ∀ {bs : List Addr}, RowsAt K H bs rs → (∀ r ∈ rs, r.1.length ≤ 10000) → EqA K H 2 (as.map V.ref) (bs.map V.ref) := by
  induction h with
  | nil =>
    intro bs g _
    cases g
    trivial
  | cons h _ ih =>
    intro bs g hz
    cases g with
    | cons g g' => exact ⟨h.eqd g (hz _ List.mem_cons_self), ih g' fun r hr => hz r (List.mem_cons_of_mem _ hr)⟩
theorem RowsAt.eqd {as bs : List Addr} {rs : List Raw} {L M : Addr} (h : RowsAt K H as rs) (g : RowsAt K H bs rs) (hl : SqL K H L (as.map V.ref)) (hm : SqL K H M (bs.map V.ref)) (hn : rs.length ≤ 10000) (hz : ∀ r ∈ rs, r.1.length ≤ 10000) : EqD K H 3 (.ref L) (.ref M) :=
  eqL hl hm (h.eqA g hz) (by rw [List.length_map, h.length]; exact hn)
end
/-! ### a table's rows, whatever the order that it is held in -/
theorem toks_ints : ∀ {xs ys : List Int}, keyToksAll (xs.map PyData.int) = keyToksAll (ys.map PyData.int) → xs = ys
  | [], [], _ => rfl
  | [], y :: ys, h => by
    simp only [List.map_nil, List.map_cons, keyToksAll] at h
    have := List.head_eq_of_cons_eq h
    cases this
  | x :: xs, [], h => by
    simp only [List.map_nil, List.map_cons, keyToksAll] at h
    have := List.head_eq_of_cons_eq h
    cases this
  | x :: xs, y :: ys, h => by
    simp only [List.map_cons, keyToksAll, keyToks] at h
    have h := List.tail_eq_of_cons_eq h
    have h1 := List.head_eq_of_cons_eq h
    have h2 := List.tail_eq_of_cons_eq h
    rw [toks_ints h2]
    cases h1
    rfl
theorem ordKey_inj {x y : Mono} (h : keyToks (ordKey x) = keyToks (ordKey y)) : x = y := by
  unfold ordKey at h
  simp only [keyToks, keyToksAll] at h
  have h := List.tail_eq_of_cons_eq (List.tail_eq_of_cons_eq (List.tail_eq_of_cons_eq h))
  exact toks_ints (List.append_cancel_right h)
theorem sortT_uniq {P Q : Tab} (nd : (keysT P).Nodup) (h : P.Perm Q) : sortT P = sortT Q := by
  refine List.Perm.eq_of_pairwise (le := fun a b => dataLe true (fun t : Mono × Rat => ordKey t.1) a b = true) (fun a b ha hb h1 h2 => ?_) (sort_pairwise (sortLe_total (listOrd itemOrd) true _) P) (sort_pairwise (sortLe_total (listOrd itemOrd) true _) Q) ((sortT_perm P).trans (h.trans (sortT_perm Q).symm))
  have ha : a ∈ P := (sortT_perm P).mem_iff.mp ha
  have hb : b ∈ P := h.mem_iff.mpr ((sortT_perm Q).mem_iff.mp hb)
  rw [dataLe_eq] at h1 h2
  have e : a.1 = b.1 := ordKey_inj (lex_total (O := itemOrd) _ _ (by simpa [dataLt] using h1) (by simpa [dataLt] using h2))
  have e1 := gt_mem nd ha
  rw [e, gt_mem nd hb] at e1
  exact Prod.ext e e1.symm
theorem RowsAt.take {K : PySem.W.Frag} {H : Hp} {as : List Addr} {rs : List Raw} (h : RowsAt K H as rs) : ∀ n, RowsAt K H (as.take n) (rs.take n) := by
  induction h with
  | nil => intro n; rw [List.take_nil, List.take_nil]; exact .nil
  | cons h _ ih =>
    intro n
    cases n with
    | zero => exact .nil
    | succ n => exact .cons h (ih n)
theorem RowsAt.drop {K : PySem.W.Frag} {H : Hp} {as : List Addr} {rs : List Raw} (h : RowsAt K H as rs) : ∀ n, RowsAt K H (as.drop n) (rs.drop n) := by
  induction h with
  | nil => intro n; rw [List.drop_nil, List.drop_nil]; exact .nil
  | cons h g ih =>
    intro n
    cases n with
    | zero => exact .cons h g
    | succ n => exact ih n
theorem cutV_drop (xs : List V) (j : Nat) : cutV xs (some (j : Int)) none = xs.drop j := by
  unfold cutV
  rw [HT.sIx_nat, HT.sIx_none, List.take_of_length_le (by rw [List.length_drop]; omega)]
  by_cases h : j ≤ xs.length
  · rw [Nat.min_eq_left h]
  · rw [Nat.min_eq_right (by omega), List.drop_eq_nil_of_le (Nat.le_refl _), List.drop_eq_nil_of_le (by omega)]
/-- a list turned -/
def rot {α : Type} (j : Nat) (xs : List α) : List α := xs.drop j ++ xs.take j
theorem rot_perm {α : Type} (j : Nat) (xs : List α) : (rot j xs).Perm xs := by
  unfold rot
  refine List.perm_append_comm.trans ?_
  rw [List.take_append_drop]
theorem rawOf_rot (j : Nat) (P : Tab) : rawOf (rot j P) = (rawOf P).drop j ++ (rawOf P).take j := by
  unfold rawOf rot
  rw [List.map_append, List.map_drop, List.map_take]
theorem RowsAt.rot {K : PySem.W.Frag} {H : Hp} {as : List Addr} {P : Tab} (h : RowsAt K H as (rawOf P)) (j : Nat) : RowsAt K H (CT.rot j as) (rawOf (CT.rot j P)) := by
  rw [rawOf_rot]
  exact (h.drop j).app (h.take j)
theorem Nrm.perm {n : Nat} {P R : Tab} (h : Nrm n P) (p : R.Perm P) : Nrm n R :=
  ⟨(p.map Prod.fst).nodup_iff.mpr h.nd, fun t ht => h.nz t (p.mem_iff.mp ht), fun t ht => h.ln t (p.mem_iff.mp ht)⟩
theorem ltK_tri {x y : Mono} (h1 : ltK x y = false) (h2 : ltK y x = false) : x = y := ordKey_inj (lex_total (O := itemOrd) _ _ (by simpa [ltK, dataLt] using h1) (by simpa [ltK, dataLt] using h2))
/-- the greatest term stands first -/
theorem head_max {P R : Tab} (nd : (keysT P).Nodup) (pm : R.Perm P) {t : Mono × Rat} (ht : t ∈ R) (hm : ∀ k ∈ keysT R, ltK t.1 k = false) : (sortT P)[0]? = some t := by
  have ht2 : t ∈ sortT P := (sortT_perm P).mem_iff.mpr (pm.mem_iff.mp ht)
  have pw : (sortT P).Pairwise (fun a b => dataLe true (fun t : Mono × Rat => ordKey t.1) a b = true) := sort_pairwise (sortLe_total (listOrd itemOrd) true _) P
  cases e : sortT P with
  | nil => rw [e] at ht2; cases ht2
  | cons h r =>
    rw [e] at ht2 pw
    rcases List.mem_cons.mp ht2 with rfl | hr
    · rfl
    · have h1 := (List.pairwise_cons.mp pw).1 t hr
      rw [dataLe_eq] at h1
      have hh : h ∈ P := (sortT_perm P).mem_iff.mp (by rw [e]; exact List.mem_cons_self)
      have h2 := hm h.1 (by
        have := (pm.mem_iff (a := h)).mpr hh
        exact List.mem_map_of_mem this)
      have ek : h.1 = t.1 := ltK_tri (by simpa [ltK, dataLt] using h1) h2
      have e1 := gt_mem nd hh
      rw [ek, gt_mem nd (pm.mem_iff.mp ht)] at e1
      rw [List.getElem?_cons_zero]
      exact congrArg some (Prod.ext ek e1.symm)
end CT

/-! zip of a list and a tuple, in any mixture. -/
namespace CT
open PySem PySem.Spec PyProof.Rows L2
/-- a cursor over a list (false) or a tuple (true) -/
def CurAt (b : Bool) (h : Heap) (it l : Addr) (k : Nat) : Prop := match b with
  | true => h.IsTupleIter it l k
  | false => h.IsListIter it l k
def ItsAt (b : Bool) (h : Heap) (l : Addr) (xs : Array Value) : Prop := match b with
  | true => h.IsTuple l xs
  | false => h.IsList l xs
section
variable {b : Bool} {h h' : Heap} {it l a : Addr} {k : Nat} {xs : Array Value}
theorem CurAt.far (x : CurAt b h it l k) (e : Heap.ExtBut a h h') (n : it ≠ a) : CurAt b h' it l k := by
  cases b with
  | true => exact Heap.IsTupleIter.extBut x e n
  | false => exact Heap.IsListIter.extBut x e n
theorem CurAt.kept (x : CurAt b h it l k) (e : ∀ o, h.get? it = some o → h'.get? it = some o) : CurAt b h' it l k := by
  cases b with
  | true => exact Heap.IsTupleIter.at x e
  | false => exact Heap.IsListIter.at x e
theorem CurAt.obj (x : CurAt b h it l k) : ∃ o, h.get? it = some o ∧ ∀ v, o.data ≠ .cell v := by
  cases b with
  | true =>
    obtain ⟨o, e, _, d⟩ := x
    exact ⟨o, e, fun v q => by rw [d] at q; cases q⟩
  | false =>
    obtain ⟨o, e, _, d⟩ := x
    exact ⟨o, e, fun v q => by rw [d] at q; cases q⟩
theorem CurAt.lt (x : CurAt b h it l k) : it < h.objs.size := by
  obtain ⟨o, e, _⟩ := x.obj
  exact Heap.lt_size e
theorem ItsAt.far (x : ItsAt b h l xs) (e : Heap.ExtBut a h h') (n : l ≠ a) : ItsAt b h' l xs := by
  cases b with
  | true => exact Heap.IsTuple.extBut x e n
  | false => exact Heap.IsList.extBut x e n
theorem ItsAt.lt (x : ItsAt b h l xs) : l < h.objs.size := by
  cases b with
  | true =>
    obtain ⟨o, e, _⟩ := x
    exact Heap.lt_size e
  | false =>
    obtain ⟨o, e, _⟩ := x
    exact Heap.lt_size e
end
section
variable {prog : Program} {w : World} {A : Around} {E : Value → Shared → Prop} {s : Shared}
theorem cur_item {b : Bool} {it l : Addr} {k : Nat} {xs : Array Value} {x : Value} {Q : Value → Shared → Prop} (c : CurAt b s.heap it l k) (i : ItsAt b s.heap l xs) (hx : xs[k]? = some x) (h : ∀ h', CurAt b h' it l (k + 1) → Heap.SameBut it s.heap h' → Q x { s with heap := h' }) :
    wpAny (model prog w) A (Builtin.SmallTypes.nextOf (.ref it)) Q E s := by
  cases b with
  | true => exact RZ.nextOf_tuple_item c i hx h
  | false => exact wpAny_nextOf_list_item c i hx h
theorem cur_end {b : Bool} {it l : Addr} {k : Nat} {xs : Array Value} {Q : Value → Shared → Prop} (hh : A.handled = none) (c : CurAt b s.heap it l k) (i : ItsAt b s.heap l xs) (hx : xs[k]? = none)
    (h : ∀ h' e, Heap.ExtBut it s.heap h' → (∃ o, h'.get? e = some o ∧ o.cls = .type "StopIteration") → E (.ref e) { s with heap := h' }) : wpAny (model prog w) A (Builtin.SmallTypes.nextOf (.ref it)) Q E s := by
  cases b with
  | true => exact RZ.nextOf_tuple_end hh c i hx h
  | false => exact wpAny_nextOf_list_end hh c i hx h
variable {b1 b2 : Bool} {z TI TO i1 i2 l1 l2 : Addr} {k1 k2 : Nat} {xs ys : Array Value} {x y u v : Value}
/-- the zip at z stands over two cursors -/
structure ZipAt (b1 b2 : Bool) (h : Heap) (z TI TO i1 i2 l1 l2 : Addr) (k1 k2 : Nat) (xs ys : Array Value) (u v : Value) : Prop where
  z : IsZip h z TI TO .none
  I : IsPair h TI (.ref i1) (.ref i2)
  O : IsPair h TO u v
  c1 : CurAt b1 h i1 l1 k1
  c2 : CurAt b2 h i2 l2 k2
  s1 : ItsAt b1 h l1 xs
  s2 : ItsAt b2 h l2 ys
theorem mix_item {Q : Value → Shared → Prop} (D : ZipApart z TI TO i1 i2 l1 l2) (Z : ZipAt b1 b2 s.heap z TI TO i1 i2 l1 l2 k1 k2 xs ys u v) (hx : xs[k1]? = some x) (hy : ys[k2]? = some y)
    (hQ : ∀ h', IsZip h' z TI TO (rawInt s.heap.objs.size) → IsPair h' TO x y → CurAt b1 h' i1 l1 (k1 + 1) → CurAt b2 h' i2 l2 (k2 + 1) → IsPair h' s.heap.objs.size x y → h'.objs.size = s.heap.objs.size + 1 →
      (∀ c o, c ≠ z → c ≠ TO → c ≠ i1 → c ≠ i2 → s.heap.get? c = some o → h'.get? c = some o) → Q (.ref s.heap.objs.size) { s with heap := h' }) :
    wpAny (model prog w) A (Builtin.«zip.__next__» ⟨[.ref z], []⟩) (fun fin s' => ∃ v, fin = .done (.ret v) ∧ Q v s') E s := by
  show wpAny _ _ (field (.ref z) 2 >>= _) _ _ _
  refine wpAny_bind (wpAny_field Z.z rfl (x := .bool false) rfl ?_)
  show wpAny _ _ (field (.ref z) 3 >>= _) _ _ _
  refine wpAny_bind (wpAny_field Z.z rfl (x := .ref TI) rfl (wpAny_bind (wpAny_seqItems Z.I rfl ?_)))
  show wpAny _ _ (Builtin.SmallTypes.ownedTupleIsFree (.ref z) >>= _) _ _ _
  unfold Builtin.SmallTypes.ownedTupleIsFree
  refine wpAny_bind (wpAny_bind (wpAny_field Z.z rfl (x := .none) rfl (wpAny_pure ?_)))
  simp only [if_true]
  refine wpAny_bind (wpAny_rule (wpAny_bind (wpAny_field Z.z rfl (x := .ref TO) rfl (wpAny_bind (wpAny_setField_rec Z.z (by simp) fun g1 z1 e1 => ?_)))))
  have z1 : IsZip g1 z TI TO .ellipsis := z1
  simp only [List.zipIdx_cons, List.zipIdx_nil, List.forIn_cons, List.forIn_nil]
  refine wpAny_bind (wpAny_bind (wpAny_bind (wpAny_onRaise ?_)))
  show wpAny _ _ (Builtin.SmallTypes.nextOf (.ref i1) >>= _) _ _ _
  refine wpAny_bind (cur_item (Z.c1.far e1.extBut D.i1z) (Z.s1.far e1.extBut D.l1z) hx fun g2 c2 e2 => wpAny_pure ?_)
  have o2 : IsPair g2 TO u v := e2.extBut _ _ D.TOi1 (e1.extBut _ _ D.TOz Z.O)
  refine wpAny_bind (wpAny_seqItems o2 rfl (wpAny_bind (wpAny_updateSeq_pair o2 fun g3 o3 e3 => wpAny_bind (wpAny_letGo (wpAny_pure ?_)))))
  have o3 : IsPair g3 TO x v := o3
  refine wpAny_bind (wpAny_bind (wpAny_onRaise ?_))
  show wpAny _ _ (Builtin.SmallTypes.nextOf (.ref i2) >>= _) _ _ _
  have d3 : CurAt b2 g3 i2 l2 k2 := ((Z.c2.far e1.extBut D.i2z).far e2.extBut D.i12.symm).far e3.extBut D.TOi2.symm
  have t3 : ItsAt b2 g3 l2 ys := ((Z.s2.far e1.extBut D.l2z).far e2.extBut D.l2i1).far e3.extBut D.l2TO
  refine wpAny_bind (cur_item d3 t3 hy fun g4 d4 e4 => wpAny_pure ?_)
  have o4 : IsPair g4 TO x v := e4.extBut _ _ D.TOi2 o3
  refine wpAny_bind (wpAny_seqItems o4 rfl (wpAny_bind (wpAny_updateSeq_pair o4 fun g5 o5 e5 => wpAny_bind (wpAny_letGo (wpAny_pure (wpAny_pure ?_))))))
  have o5 : IsPair g5 TO x y := o5
  refine wpAny_bind (wpAny_seqItems o5 rfl (wpAny_bind (wpAny_newTuple ?_)))
  have sz : g5.objs.size = s.heap.objs.size := by rw [e5.1, e4.1, e3.1, e2.1, e1.1]
  have z5 : IsZip g5 z TI TO .ellipsis := e5.extBut _ _ D.TOz.symm (e4.extBut _ _ D.i2z.symm (e3.extBut _ _ D.TOz.symm (e2.extBut _ _ D.i1z.symm z1)))
  have k5 : ∀ c o, c ≠ z → c ≠ TO → c ≠ i1 → c ≠ i2 → s.heap.get? c = some o → g5.get? c = some o := fun c o n1 n2 n3 n4 e =>
    e5.extBut _ _ n2 (e4.extBut _ _ n4 (e3.extBut _ _ n2 (e2.extBut _ _ n3 (e1.extBut _ _ n1 e))))
  have c5 : CurAt b1 g5 i1 l1 (k1 + 1) := ((c2.far e3.extBut D.TOi1.symm).far e4.extBut D.i12).far e5.extBut D.TOi1.symm
  have d5 : CurAt b2 g5 i2 l2 (k2 + 1) := d4.far e5.extBut D.TOi2.symm
  have zlt : z < g5.objs.size := Heap.lt_size z5
  show wpAny _ _ (Builtin.SmallTypes.ownedTupleHandOut (.ref z) (.ref g5.objs.size) >>= _) _ _ _
  unfold Builtin.SmallTypes.ownedTupleHandOut
  have z6 : IsZip (g5.push { cls := .type "tuple", data := .seq #[x, y] }) z TI TO .ellipsis := Heap.get?_push_of_some _ z5
  refine wpAny_bind (wpAny_bind (wpAny_setField_rec z6 (by simp) fun g7 z7 e7 => ?_))
  have z7 : IsZip g7 z TI TO (rawInt g5.objs.size) := z7
  refine wpAny_setField_rec z7 (by simp) fun g8 z8 e8 => wpAny_pure ⟨_, rfl, ?_⟩
  have z8 : IsZip g8 z TI TO (rawInt g5.objs.size) := z8
  have up : ∀ c o, c ≠ z → g5.get? c = some o → g8.get? c = some o := fun c o n e => e8.extBut _ _ n (e7.extBut _ _ n (Heap.get?_push_of_some _ e))
  have new : IsPair g8 g5.objs.size x y := e8.extBut _ _ (Nat.ne_of_gt zlt) (e7.extBut _ _ (Nat.ne_of_gt zlt) (Heap.get?_push_size _ rfl))
  have sz8 : g8.objs.size = g5.objs.size + 1 := by rw [e8.1, e7.1, Heap.size_push]
  rw [sz] at z8 new sz8
  show Q (.ref g5.objs.size) _
  rw [sz]
  exact hQ g8 z8 (up _ _ D.TOz o5) (c5.kept fun o e => up _ o D.i1z e) (d5.kept fun o e => up _ o D.i2z e) new sz8 fun c o n1 n2 n3 n4 e => up c o n1 (k5 c o n1 n2 n3 n4 e)
theorem mix_end {Q : PySem.Fin → Shared → Prop} (hh : A.handled = none) (D : ZipApart z TI TO i1 i2 l1 l2) (Z : ZipAt b1 b2 s.heap z TI TO i1 i2 l1 l2 k1 k2 xs ys u v) (hend : xs[k1]? = none ∨ ys[k2]? = none)
    (hE : ∀ h' e, (∀ c o, c ≠ z → c ≠ TO → c ≠ i1 → c ≠ i2 → s.heap.get? c = some o → h'.get? c = some o) → (∃ o, h'.get? e = some o ∧ o.cls = .type "StopIteration") → E (.ref e) { s with heap := h' }) :
    wpAny (model prog w) A (Builtin.«zip.__next__» ⟨[.ref z], []⟩) Q E s := by
  show wpAny _ _ (field (.ref z) 2 >>= _) _ _ _
  refine wpAny_bind (wpAny_field Z.z rfl (x := .bool false) rfl ?_)
  show wpAny _ _ (field (.ref z) 3 >>= _) _ _ _
  refine wpAny_bind (wpAny_field Z.z rfl (x := .ref TI) rfl (wpAny_bind (wpAny_seqItems Z.I rfl ?_)))
  show wpAny _ _ (Builtin.SmallTypes.ownedTupleIsFree (.ref z) >>= _) _ _ _
  unfold Builtin.SmallTypes.ownedTupleIsFree
  refine wpAny_bind (wpAny_bind (wpAny_field Z.z rfl (x := .none) rfl (wpAny_pure ?_)))
  simp only [if_true]
  refine wpAny_bind (wpAny_rule (wpAny_bind (wpAny_field Z.z rfl (x := .ref TO) rfl (wpAny_bind (wpAny_setField_rec Z.z (by simp) fun g1 z1 e1 => ?_)))))
  have z1 : IsZip g1 z TI TO .ellipsis := z1
  simp only [List.zipIdx_cons, List.zipIdx_nil, List.forIn_cons, List.forIn_nil]
  refine wpAny_bind (wpAny_bind (wpAny_bind (wpAny_onRaise ?_)))
  show wpAny _ _ (Builtin.SmallTypes.nextOf (.ref i1) >>= _) _ _ _
  have c1 := Z.c1.far e1.extBut D.i1z
  have t1 := Z.s1.far e1.extBut D.l1z
  cases hx : xs[k1]? with
  | none =>
    refine wpAny_bind (cur_end hh c1 t1 hx fun g2 e e2 he => ?_)
    obtain ⟨oe, ge, te⟩ := he
    have z2 : IsZip g2 z TI TO .ellipsis := e2 _ _ D.i1z.symm z1
    have ne : e ≠ z := fun q => by
      subst q
      rw [z2] at ge
      cases ge
      simp at te
    exact wpAny_setField_rec z2 (by simp) fun g3 _ e3 => hE g3 e (fun c o n1 _ n3 _ q => e3.extBut _ _ n1 (e2 _ _ n3 (e1.extBut _ _ n1 q))) ⟨oe, e3.extBut _ _ ne ge, te⟩
  | some x =>
    have hy : ys[k2]? = none := hend.resolve_left fun q => by
      rw [hx] at q
      cases q
    refine wpAny_bind (cur_item c1 t1 hx fun g2 c2 e2 => wpAny_pure ?_)
    have o2 : IsPair g2 TO u v := e2.extBut _ _ D.TOi1 (e1.extBut _ _ D.TOz Z.O)
    refine wpAny_bind (wpAny_seqItems o2 rfl (wpAny_bind (wpAny_updateSeq_pair o2 fun g3 o3 e3 => wpAny_bind (wpAny_letGo (wpAny_pure ?_)))))
    refine wpAny_bind (wpAny_bind (wpAny_onRaise ?_))
    show wpAny _ _ (Builtin.SmallTypes.nextOf (.ref i2) >>= _) _ _ _
    have d3 : CurAt b2 g3 i2 l2 k2 := ((Z.c2.far e1.extBut D.i2z).far e2.extBut D.i12.symm).far e3.extBut D.TOi2.symm
    have t3 : ItsAt b2 g3 l2 ys := ((Z.s2.far e1.extBut D.l2z).far e2.extBut D.l2i1).far e3.extBut D.l2TO
    refine wpAny_bind (cur_end hh d3 t3 hy fun g4 e e4 he => ?_)
    obtain ⟨oe, ge, te⟩ := he
    have z4 : IsZip g4 z TI TO .ellipsis := e4 _ _ D.i2z.symm (e3.extBut _ _ D.TOz.symm (e2.extBut _ _ D.i1z.symm z1))
    have ne : e ≠ z := fun q => by
      subst q
      rw [z4] at ge
      cases ge
      simp at te
    exact wpAny_setField_rec z4 (by simp) fun g5 _ e5 => hE g5 e (fun c o n1 n2 n3 n4 q => e5.extBut _ _ n1 (e4 _ _ n4 (e3.extBut _ _ n2 (e2.extBut _ _ n3 (e1.extBut _ _ n1 q))))) ⟨oe, e5.extBut _ _ ne ge, te⟩
end
/-! ### zip(a, b) -/
theorem sub_zip' : isSubtype (.type "zip") (.type "zip") = pure true := sub_zip
abbrev zLT1 (h : Heap) (l1 : Addr) : Heap := h.push { cls := .type "list_iterator", data := .fields #[.ref l1, .int 0 0] }
abbrev zLT2 (h : Heap) (l1 l2 : Addr) : Heap := (zLT1 h l1).push { cls := .type "tuple_iterator", data := .fields #[.ref l2, .int 0 0] }
abbrev zLT3 (h : Heap) (l1 l2 : Addr) : Heap := (zLT2 h l1 l2).push { cls := .type "tuple", data := .seq #[.ref h.objs.size, .ref (zLT1 h l1).objs.size] }
abbrev zLT4 (h : Heap) (l1 l2 : Addr) : Heap := (zLT3 h l1 l2).push { cls := .type "tuple", data := .seq #[.none, .none] }
abbrev zLT5 (h : Heap) (l1 l2 : Addr) : Heap := (zLT4 h l1 l2).push { cls := .type "zip", data := .fields #[.none, .bool false, .bool false, .ref (zLT2 h l1 l2).objs.size, .ref (zLT3 h l1 l2).objs.size] }
abbrev zTL1 (h : Heap) (l1 : Addr) : Heap := h.push { cls := .type "tuple_iterator", data := .fields #[.ref l1, .int 0 0] }
abbrev zTL2 (h : Heap) (l1 l2 : Addr) : Heap := (zTL1 h l1).push { cls := .type "list_iterator", data := .fields #[.ref l2, .int 0 0] }
abbrev zTL3 (h : Heap) (l1 l2 : Addr) : Heap := (zTL2 h l1 l2).push { cls := .type "tuple", data := .seq #[.ref h.objs.size, .ref (zTL1 h l1).objs.size] }
abbrev zTL4 (h : Heap) (l1 l2 : Addr) : Heap := (zTL3 h l1 l2).push { cls := .type "tuple", data := .seq #[.none, .none] }
abbrev zTL5 (h : Heap) (l1 l2 : Addr) : Heap := (zTL4 h l1 l2).push { cls := .type "zip", data := .fields #[.none, .bool false, .bool false, .ref (zTL2 h l1 l2).objs.size, .ref (zTL3 h l1 l2).objs.size] }
theorem zLT_meets (l1 l2 : Addr) (xs ys : Array Value) :
    Meets (Builtin.«zip.__new__» ⟨[.type "zip", .ref l1, .ref l2], []⟩) (fun _ R s => s.heap.IsList l1 xs ∧ s.heap.IsTuple l2 ys ∧ R (.ok (.ret (.ref (zLT4 s.heap l1 l2).objs.size))) { s with heap := zLT5 s.heap l1 l2 }) :=
  .of_wp fun prog w A R s h => by
    obtain ⟨hp, g, d, tk, os⟩ := s
    obtain ⟨a1, a2, h⟩ := h
    have hsub := sub_zip
    have q1 : Heap.IsList (Shared.heap ⟨hp, g, d, tk, os⟩) l1 xs := a1
    have q2 : Heap.IsTuple (Shared.heap ⟨hp.push { cls := .type "list_iterator", data := .fields #[.ref l1, .int 0 0] }, g, d, tk, os⟩) l2 ys := Heap.IsTuple.push a2 _
    wp_walk using wpAny_pyIter_list q1, wpAny_pyIter_tuple q2
    exact ⟨_, rfl, h⟩
theorem zTL_meets (l1 l2 : Addr) (xs ys : Array Value) :
    Meets (Builtin.«zip.__new__» ⟨[.type "zip", .ref l1, .ref l2], []⟩) (fun _ R s => s.heap.IsTuple l1 xs ∧ s.heap.IsList l2 ys ∧ R (.ok (.ret (.ref (zTL4 s.heap l1 l2).objs.size))) { s with heap := zTL5 s.heap l1 l2 }) :=
  .of_wp fun prog w A R s h => by
    obtain ⟨hp, g, d, tk, os⟩ := s
    obtain ⟨a1, a2, h⟩ := h
    have hsub := sub_zip
    have q1 : Heap.IsTuple (Shared.heap ⟨hp, g, d, tk, os⟩) l1 xs := a1
    have q2 : Heap.IsList (Shared.heap ⟨hp.push { cls := .type "tuple_iterator", data := .fields #[.ref l1, .int 0 0] }, g, d, tk, os⟩) l2 ys := Heap.IsList.push a2 _
    wp_walk using wpAny_pyIter_tuple q1, wpAny_pyIter_list q2
    exact ⟨_, rfl, h⟩
section
variable {prog : Program} {w : World} {A : Around} {E : Value → Shared → Prop} {s : Shared}
theorem zLT_call {l1 l2 : Addr} {xs ys : Array Value} {Q : Value → Shared → Prop} (a1 : ItsAt false s.heap l1 xs) (a2 : ItsAt true s.heap l2 ys)
    (h : ∀ h', IsZip h' (s.heap.objs.size + 4) (s.heap.objs.size + 2) (s.heap.objs.size + 3) .none → IsPair h' (s.heap.objs.size + 2) (.ref s.heap.objs.size) (.ref (s.heap.objs.size + 1)) → IsPair h' (s.heap.objs.size + 3) .none .none →
      CurAt false h' s.heap.objs.size l1 0 → CurAt true h' (s.heap.objs.size + 1) l2 0 → h'.objs.size = s.heap.objs.size + 5 → (∀ c o, s.heap.get? c = some o → h'.get? c = some o) → Q (.ref (s.heap.objs.size + 4)) { s with heap := h' }) :
    wpAny (model prog w) A (call (.type "zip") [.ref l1, .ref l2]) Q E s := by
  refine callType_new F.called_zip (by decide) (F.typeCall_zip_2 _ _) (F.newCall_zip_2 _ _) (fun obj => F.args_object_init_3 obj _ _) F.entry_zip_new (zLT_meets l1 l2 xs ys) ⟨a1, a2, ?_⟩
  have n1 : (zLT1 s.heap l1).objs.size = s.heap.objs.size + 1 := Heap.size_push ..
  have n2 : (zLT2 s.heap l1 l2).objs.size = s.heap.objs.size + 2 := by rw [Heap.size_push, n1]
  have n3 : (zLT3 s.heap l1 l2).objs.size = s.heap.objs.size + 3 := by rw [Heap.size_push, n2]
  have n4 : (zLT4 s.heap l1 l2).objs.size = s.heap.objs.size + 4 := by rw [Heap.size_push, n3]
  have n5 : (zLT5 s.heap l1 l2).objs.size = s.heap.objs.size + 5 := by rw [Heap.size_push, n4]
  have e5 : (zLT5 s.heap l1 l2).get? (zLT4 s.heap l1 l2).objs.size = some _ := Heap.get?_push_size _ rfl
  have e4 : (zLT5 s.heap l1 l2).get? (zLT3 s.heap l1 l2).objs.size = some _ := Heap.get?_push_of_some _ (Heap.get?_push_size _ rfl)
  have e3 : (zLT5 s.heap l1 l2).get? (zLT2 s.heap l1 l2).objs.size = some _ := Heap.get?_push_of_some _ (Heap.get?_push_of_some _ (Heap.get?_push_size _ rfl))
  have e2 : (zLT5 s.heap l1 l2).get? (zLT1 s.heap l1).objs.size = some _ := Heap.get?_push_of_some _ (Heap.get?_push_of_some _ (Heap.get?_push_of_some _ (Heap.get?_push_size _ rfl)))
  have e1 : (zLT5 s.heap l1 l2).get? s.heap.objs.size = some _ := Heap.get?_push_of_some _ (Heap.get?_push_of_some _ (Heap.get?_push_of_some _ (Heap.get?_push_of_some _ (Heap.get?_push_size _ rfl))))
  show _ ∧ _
  rw [n2, n3, n4] at e5
  rw [n1, n2] at e3
  rw [n3] at e4
  rw [n1] at e2
  rw [n4]
  exact ⟨⟨_, e5, rfl⟩, h _ e5 e3 e4 ⟨_, e1, rfl, rfl⟩ ⟨_, e2, rfl, rfl⟩ n5 fun c o q => Heap.get?_push_of_some _ (Heap.get?_push_of_some _ (Heap.get?_push_of_some _ (Heap.get?_push_of_some _ (Heap.get?_push_of_some _ q))))⟩
theorem zTL_call {l1 l2 : Addr} {xs ys : Array Value} {Q : Value → Shared → Prop} (a1 : ItsAt true s.heap l1 xs) (a2 : ItsAt false s.heap l2 ys)
    (h : ∀ h', IsZip h' (s.heap.objs.size + 4) (s.heap.objs.size + 2) (s.heap.objs.size + 3) .none → IsPair h' (s.heap.objs.size + 2) (.ref s.heap.objs.size) (.ref (s.heap.objs.size + 1)) → IsPair h' (s.heap.objs.size + 3) .none .none →
      CurAt true h' s.heap.objs.size l1 0 → CurAt false h' (s.heap.objs.size + 1) l2 0 → h'.objs.size = s.heap.objs.size + 5 → (∀ c o, s.heap.get? c = some o → h'.get? c = some o) → Q (.ref (s.heap.objs.size + 4)) { s with heap := h' }) :
    wpAny (model prog w) A (call (.type "zip") [.ref l1, .ref l2]) Q E s := by
  refine callType_new F.called_zip (by decide) (F.typeCall_zip_2 _ _) (F.newCall_zip_2 _ _) (fun obj => F.args_object_init_3 obj _ _) F.entry_zip_new (zTL_meets l1 l2 xs ys) ⟨a1, a2, ?_⟩
  have n1 : (zTL1 s.heap l1).objs.size = s.heap.objs.size + 1 := Heap.size_push ..
  have n2 : (zTL2 s.heap l1 l2).objs.size = s.heap.objs.size + 2 := by rw [Heap.size_push, n1]
  have n3 : (zTL3 s.heap l1 l2).objs.size = s.heap.objs.size + 3 := by rw [Heap.size_push, n2]
  have n4 : (zTL4 s.heap l1 l2).objs.size = s.heap.objs.size + 4 := by rw [Heap.size_push, n3]
  have n5 : (zTL5 s.heap l1 l2).objs.size = s.heap.objs.size + 5 := by rw [Heap.size_push, n4]
  have e5 : (zTL5 s.heap l1 l2).get? (zTL4 s.heap l1 l2).objs.size = some _ := Heap.get?_push_size _ rfl
  have e4 : (zTL5 s.heap l1 l2).get? (zTL3 s.heap l1 l2).objs.size = some _ := Heap.get?_push_of_some _ (Heap.get?_push_size _ rfl)
  have e3 : (zTL5 s.heap l1 l2).get? (zTL2 s.heap l1 l2).objs.size = some _ := Heap.get?_push_of_some _ (Heap.get?_push_of_some _ (Heap.get?_push_size _ rfl))
  have e2 : (zTL5 s.heap l1 l2).get? (zTL1 s.heap l1).objs.size = some _ := Heap.get?_push_of_some _ (Heap.get?_push_of_some _ (Heap.get?_push_of_some _ (Heap.get?_push_size _ rfl)))
  have e1 : (zTL5 s.heap l1 l2).get? s.heap.objs.size = some _ := Heap.get?_push_of_some _ (Heap.get?_push_of_some _ (Heap.get?_push_of_some _ (Heap.get?_push_of_some _ (Heap.get?_push_size _ rfl))))
  show _ ∧ _
  rw [n2, n3, n4] at e5
  rw [n1, n2] at e3
  rw [n3] at e4
  rw [n1] at e2
  rw [n4]
  exact ⟨⟨_, e5, rfl⟩, h _ e5 e3 e4 ⟨_, e1, rfl, rfl⟩ ⟨_, e2, rfl, rfl⟩ n5 fun c o q => Heap.get?_push_of_some _ (Heap.get?_push_of_some _ (Heap.get?_push_of_some _ (Heap.get?_push_of_some _ (Heap.get?_push_of_some _ q))))⟩
theorem mix_call {b1 b2 : Bool} {l1 l2 : Addr} {xs ys : Array Value} {Q : Value → Shared → Prop} (a1 : ItsAt b1 s.heap l1 xs) (a2 : ItsAt b2 s.heap l2 ys)
    (h : ∀ h', IsZip h' (s.heap.objs.size + 4) (s.heap.objs.size + 2) (s.heap.objs.size + 3) .none → IsPair h' (s.heap.objs.size + 2) (.ref s.heap.objs.size) (.ref (s.heap.objs.size + 1)) → IsPair h' (s.heap.objs.size + 3) .none .none →
      CurAt b1 h' s.heap.objs.size l1 0 → CurAt b2 h' (s.heap.objs.size + 1) l2 0 → h'.objs.size = s.heap.objs.size + 5 → (∀ c o, s.heap.get? c = some o → h'.get? c = some o) → Q (.ref (s.heap.objs.size + 4)) { s with heap := h' }) :
    wpAny (model prog w) A (call (.type "zip") [.ref l1, .ref l2]) Q E s := by
  cases b1 with
  | false =>
    cases b2 with
    | false => exact call_zip_2 a1 a2 h
    | true => exact zLT_call a1 a2 h
  | true =>
    cases b2 with
    | false => exact zTL_call a1 a2 h
    | true => exact RZ.call_zipT a1 a2 h
theorem mix_next {b1 b2 : Bool} {z TI TO i1 i2 l1 l2 : Addr} {k1 k2 : Nat} {xs ys : Array Value} {x y u v : Value} {Q : Option Value → Shared → Prop} (D : ZipApart z TI TO i1 i2 l1 l2) (Z : ZipAt b1 b2 s.heap z TI TO i1 i2 l1 l2 k1 k2 xs ys u v) (hx : xs[k1]? = some x) (hy : ys[k2]? = some y)
    (hQ : ∀ h', IsZip h' z TI TO (rawInt s.heap.objs.size) → IsPair h' TO x y → CurAt b1 h' i1 l1 (k1 + 1) → CurAt b2 h' i2 l2 (k2 + 1) → IsPair h' s.heap.objs.size x y → h'.objs.size = s.heap.objs.size + 1 →
      (∀ c o, c ≠ z → c ≠ TO → c ≠ i1 → c ≠ i2 → s.heap.get? c = some o → h'.get? c = some o) → Q (some (.ref s.heap.objs.size)) { s with heap := h' }) : wpAny (model prog w) A (pyNext (.ref z)) Q E s := by
  have ty : s.TypeIs (.ref z) "zip" := ⟨_, Z.z, rfl⟩
  unfold pyNext
  exact wpAny_bind (wpAny_attempt (wpAny_callSpecial?_slot (name := Str.ofString "__next__") ty F.slot_zip_next (wpAny_call_entry F.slot_zip_next ty F.entry_zip_next
    (mix_item D Z hx hy fun h' q1 q2 q3 q4 q5 q6 q7 => wpAny_pure (hQ h' q1 q2 q3 q4 q5 q6 q7)) (F.args_zip_next_1 _))))
theorem mix_stop {b1 b2 : Bool} {z TI TO i1 i2 l1 l2 : Addr} {k1 k2 : Nat} {xs ys : Array Value} {u v : Value} {Q : Option Value → Shared → Prop} (hh : A.handled = none) (D : ZipApart z TI TO i1 i2 l1 l2) (Z : ZipAt b1 b2 s.heap z TI TO i1 i2 l1 l2 k1 k2 xs ys u v) (hend : xs[k1]? = none ∨ ys[k2]? = none)
    (hQ : ∀ h', (∀ c o, c ≠ z → c ≠ TO → c ≠ i1 → c ≠ i2 → s.heap.get? c = some o → h'.get? c = some o) → Q none { s with heap := h' }) : wpAny (model prog w) A (pyNext (.ref z)) Q E s := by
  have ty : s.TypeIs (.ref z) "zip" := ⟨_, Z.z, rfl⟩
  unfold pyNext
  refine wpAny_bind (wpAny_attempt (wpAny_callSpecial?_slot (name := Str.ofString "__next__") ty F.slot_zip_next (wpAny_call_entry F.slot_zip_next ty F.entry_zip_next (mix_end hh D Z hend fun h' e hk he => ?_) (F.args_zip_next_1 _))))
  obtain ⟨o, ho, hc⟩ := he
  exact wpAny_bind (wpAny_isInstance (T := "StopIteration") (b := true) ⟨o, ho, hc⟩ isSubtype_stop (wpAny_pure (hQ _ hk)))
end
/-! ### a loop over such a zip -/
theorem SqB.its {X : Cx} {pins : List (Addr × Obj)} {σ : L2.St} {H : Hp} {s : Shared} {b : Bool} {a : Addr} {xs : List V} (I : Inv X pins σ H s) (h : SqB X.K b H a xs) : ∃ its : List Value, Vals xs its ∧ ItsAt b s.heap a its.toArray := by
  cases b with
  | false =>
    obtain ⟨its, r, p, _⟩ := I.list h
    exact ⟨its, r, p.isList⟩
  | true =>
    obtain ⟨its, r, p, _⟩ := I.tuple h
    exact ⟨its, r, p⟩
theorem SqB.inj {X : Cx} {pins : List (Addr × Obj)} {σ : L2.St} {H : Hp} {s : Shared} {b : Bool} {a : Addr} {xs ys : List V} (I : Inv X pins σ H s) (h : SqB X.K b H a xs) (k : SqB X.K b H a ys) : xs = ys := by
  cases b with
  | false => exact I.list_inj h k
  | true => exact I.tuple_inj h k
def ItzM (K : PySem.W.Frag) (b1 b2 : Bool) (a b : Addr) : It :=
  ⟨fun i H => ∃ (xs ys : List V) (x y : V), SqB K b1 H a xs ∧ SqB K b2 H b ys ∧ xs[i]? = some x ∧ ys[i]? = some y,
    fun i H v H' => ∃ T x y, v = .ref T ∧ H T = none ∧ H' = upd H T (.tup [x, y]) ∧ (∀ xs, SqB K b1 H a xs → xs[i]? = some x) ∧ ∀ ys, SqB K b2 H b ys → ys[i]? = some y,
    fun i H => ∃ xs ys : List V, SqB K b1 H a xs ∧ SqB K b2 H b ys ∧ (xs.length ≤ i ∨ ys.length ≤ i)⟩
theorem turn_zipM {P : Program} {w : World} {K : PySem.W.Frag} {elts : List Expr} {kk : Nat} {tpos : Pos} {b1 b2 : Bool} {a b z TI TO i1 i2 : Addr} (D : ZipApart z TI TO i1 i2 a b) :
    Turn P w K (.Tuple elts kk tpos) (ItzM K b1 b2 a b) [z, TI, TO, i1, i2] z (fun i h => IsZip h z TI TO .none ∧ IsPair h TI (.ref i1) (.ref i2) ∧ (∃ x y, IsPair h TO x y) ∧ CurAt b1 h i1 a i ∧ CurAt b2 h i2 b i) where
  mem := by simp
  obj := fun i h ⟨hz, hI, ⟨x, y, hO⟩, h1, h2⟩ c hc => by
    rcases (show c = z ∨ c = TI ∨ c = TO ∨ c = i1 ∨ c = i2 by simpa using hc) with q | q | q | q | q <;> subst q
    · exact ⟨_, hz, fun v q => nomatch q⟩
    · exact ⟨_, hI, fun v q => nomatch q⟩
    · exact ⟨_, hO, fun v q => nomatch q⟩
    · exact h1.obj
    · exact h2.obj
  keep := fun i h h' ⟨hz, hI, ⟨x, y, hO⟩, h1, h2⟩ k => ⟨k z (by simp) _ hz, k TI (by simp) _ hI, ⟨x, y, k TO (by simp) _ hO⟩, h1.kept fun o q => k i1 (by simp) o q, h2.kept fun o q => k i2 (by simp) o q⟩
  item := by
    intro X hP hw hK hc i pins s σ H E I hf st hg
    subst hP hw hK
    obtain ⟨hz, hI, ⟨x0, y0, hO⟩, h1, h2⟩ := st
    obtain ⟨xs, ys, x, y, gx, gy, hx, hy⟩ := hg
    obtain ⟨its, rv, p⟩ := gx.its I
    obtain ⟨its2, rv2, p2⟩ := gy.its I
    obtain ⟨u, hu, ru⟩ := rv.get hx
    obtain ⟨u2, hu2, ru2⟩ := rv2.get hy
    have zlt : z < s.heap.objs.size := Heap.lt_size hz
    refine mix_next D ⟨hz, hI, hO, h1, h2, p, p2⟩ (x := u) (y := u2) (by simpa using hu) (by simpa using hu2) fun h' z' o' c1 c2 hT hsz hk => ⟨_, rfl, wpAny_letOwnedTupleGo_zip (s := { s with heap := h' }) z' fun h'' z'' sb => ?_⟩
    have hT2 : h''.get? s.heap.objs.size = some { cls := .type "tuple", data := .seq #[u, u2] } := (sb.2 _ (Nat.ne_of_gt zlt)).trans hT
    have nw : ObjOk X.prog X.w (upd H s.heap.objs.size (.tup [x, y])) h'' s.heap.objs.size (.tup [x, y]) := ⟨by show 2 ≤ sizeLine; decide, [u, u2], .cons ru (.cons ru2 .nil), ⟨_, hT2, rfl, _, rfl⟩⟩
    have J : Inv X pins σ (upd H s.heap.objs.size (.tup [x, y])) { s with heap := h'' } :=
      I.turnedNew (t' := s.toks) (ch := [z, TI, TO, i1, i2]) (fun c o hb q => (sb.2 c (fun e => hb (by simp [e]))).trans (hk c o (fun e => hb (by simp [e])) (fun e => hb (by simp [e])) (fun e => hb (by simp [e])) (fun e => hb (by simp [e])) q)) hf (Nat.le_refl _) nw
    refine ⟨.ref s.heap.objs.size, _, J, rfl, ⟨_, x, y, rfl, I.hok.fresh (Nat.le_refl _), rfl, fun l hl => by rw [SqB.inj I hl gx]; exact hx, fun l hl => by rw [SqB.inj I hl gy]; exact hy⟩, ⟨z'', (sb.2 _ D.TIz).trans (hk _ _ D.TIz D.TITO D.TIi1 D.TIi2 hI), ⟨u, u2, (sb.2 _ D.TOz).trans o'⟩, c1.kept fun o q => (sb.2 _ D.i1z).trans q, c2.kept fun o q => (sb.2 _ D.i2z).trans q⟩, fun c hcm => ?_⟩
    have clt : c < s.heap.objs.size := by
      rcases (show c = z ∨ c = TI ∨ c = TO ∨ c = i1 ∨ c = i2 by simpa using hcm) with q | q | q | q | q <;> subst q
      · exact zlt
      · exact Heap.lt_size hI
      · exact Heap.lt_size hO
      · exact h1.lt
      · exact h2.lt
    rw [upd_ne (Nat.ne_of_lt clt)]
    exact (hf c hcm).1
  done := by
    intro X hP hw hK hc i pins s σ H E I hf st hg
    subst hP hw hK
    obtain ⟨hz, hI, ⟨x0, y0, hO⟩, h1, h2⟩ := st
    obtain ⟨xs, ys, gx, gy, hend⟩ := hg
    obtain ⟨its, rv, p⟩ := gx.its I
    obtain ⟨its2, rv2, p2⟩ := gy.its I
    have n1 := rv.length
    have n2 := rv2.length
    have he : its.toArray[i]? = none ∨ its2.toArray[i]? = none := hend.imp (fun q => by simp; omega) fun q => by simp; omega
    exact mix_stop (I.ok.hd hc) D ⟨hz, hI, hO, h1, h2, p, p2⟩ he fun h' hk => ⟨rfl, I.turnedL (t' := s.toks) (ch := [z, TI, TO, i1, i2]) (fun c o hb q => hk c o (fun e => hb (by simp [e])) (fun e => hb (by simp [e])) (fun e => hb (by simp [e])) (fun e => hb (by simp [e])) q) hf⟩
  self := fun A i s Q E st h => wpAny_pyIter_zip st.1 h
def iZipM (K : PySem.W.Frag) (ta : TA) : TI := fun σ H R => ta σ H fun vs H1 => ∃ b1 b2 a b xs ys, vs = [.ref a, .ref b] ∧ SqB K b1 H1 a xs ∧ SqB K b2 H1 b ys ∧ R (ItzM K b1 b2 a b) H1
theorem pi_zipM {X : Cx} {e e2 : Expr} {ta : TA} {p pos tpos : Pos} {elts : List Expr} {kk : Nat} (hg : Gl X "zip") (hm : X.mg "zip" = none) (ha : PA X [e, e2] ta)
    (hs : starEach [e, e2] X.env = (false, eval e X.env) :: starEach [e2] X.env := by rfl) (hpl : (backTo pos (starEach [e2] X.env)).any (·.1) = false := by rfl) : PI X (.Tuple elts kk tpos) (.Call (.Name "zip" p) [e, e2] [] pos) (iZipM X.K ta) := by
  refine ⟨fun pins s σ H R I h => ?_⟩
  refine Call_ (ld_blt I hg hm PyProof.Rows.boot_zip (PyProof.Rows.callWith_type1 (thn (ha.run pos pins s σ H _ I h) fun us s1 ⟨vs, H1, I1, r1, q1⟩ => ?_) hs hpl))
  obtain ⟨b1, b2, a, b, xs, ys, ex, gx, gy, q⟩ := q1
  subst ex
  obtain ⟨u1, u2, eu⟩ : ∃ u1 u2 : Value, us = [u1, u2] := by
    have z := r1.length
    match us, z with
    | [u1, u2], _ => exact ⟨u1, u2, rfl⟩
  rw [eu] at r1 ⊢
  cases r1 with
  | cons r rr =>
    cases rr with
    | cons r2 _ =>
    cases r
    cases r2
    have fr : ∀ c, c ∈ [s1.heap.objs.size + 4, s1.heap.objs.size + 2, s1.heap.objs.size + 3, s1.heap.objs.size, s1.heap.objs.size + 1] → FpOk X pins H1 c := fun c hcm => by
      have hle : s1.heap.objs.size ≤ c := by
        rcases (show c = s1.heap.objs.size + 4 ∨ c = s1.heap.objs.size + 2 ∨ c = s1.heap.objs.size + 3 ∨ c = s1.heap.objs.size ∨ c = s1.heap.objs.size + 1 by simpa using hcm) with z | z | z | z | z <;> omega
      exact I1.fpOk hle (I1.hok.fresh hle)
    obtain ⟨its, rv, p1⟩ := gx.its I1
    obtain ⟨its2, rv2, p2⟩ := gy.its I1
    refine mix_call p1 p2 fun h' hz hI hO c1 c2 hsz hk => wpAny_pyIter_zip hz ?_
    have I2 : Inv X pins σ H1 { s1 with heap := h' } := I1.kept (t' := s1.toks) hk
    exact ⟨s1.heap.objs.size + 4, [s1.heap.objs.size + 4, s1.heap.objs.size + 2, s1.heap.objs.size + 3, s1.heap.objs.size, s1.heap.objs.size + 1], _, _, H1, rfl, I2, turn_zipM (PySem.W.ktu_apart s1.heap.objs.size a b p1.lt p2.lt), ⟨hz, hI, ⟨_, _, hO⟩, c1, c2⟩, fr, q⟩
theorem walk_zipM {K : PySem.W.Frag} {b1 b2 : Bool} {a b : Addr} {xs ys : List V} {n : Nat} (hn : n = min xs.length ys.length) : Walk (ItzM K b1 b2 a b) n (fun H => SqB K b1 H a xs ∧ SqB K b2 H b ys) (YPair (fun i => xs[i]?) (fun i => ys[i]?)) := by
  subst hn
  refine ⟨fun i _ hi q => ⟨xs, ys, xs[i]'(by omega), ys[i]'(by omega), q.1, q.2, List.getElem?_eq_getElem _, List.getElem?_eq_getElem _⟩, fun _ q => ⟨xs, ys, q.1, q.2, by omega⟩, fun i H v H' _ q y => ?_⟩
  obtain ⟨T, x, z, h1, h2, h3, h4, h5⟩ := y
  exact ⟨T, x, z, h1, h2, h3, h4 xs q.1, h5 ys q.2⟩
end CT

/-! Values of polynomials at points: plain laws, sizes. -/
namespace CT
/-- v times x, n times over -/
def mv (v x : Rat) : Nat → Rat
  | 0 => v
  | n + 1 => mv v x n * x
/-- v times the first i powers -/
def mvs (v : Rat) (xs : List Rat) (es : List Int) : Nat → Rat
  | 0 => v
  | i + 1 => mv (mvs v xs es i) (xs.getD i 0) (es.getD i 0).toNat
/-- the sum of the first i terms' values -/
def vsum (P : Tab) (xs : List Rat) : Nat → Rat
  | 0 => 0
  | i + 1 => vsum P xs i + mvs (P.getD i ([], 0)).2 xs (P.getD i ([], 0)).1 (P.getD i ([], 0)).1.length
def val (P : Tab) (xs : List Rat) : Rat := vsum P xs P.length
/-- all numbers that the sum meets are of a size that is served -/
structure VOk (P : Tab) (xs : List Rat) : Prop where
  x : ∀ x ∈ xs, MidQ x
  m : ∀ t ∈ P, ∀ i, i < t.1.length → ∀ j, j ≤ (t.1.getD i 0).toNat → MidQ (mv (mvs t.2 xs t.1 i) (xs.getD i 0) j)
  f : ∀ t ∈ P, MidQ (mvs t.2 xs t.1 t.1.length)
  s : ∀ i, i ≤ P.length → MidQ (vsum P xs i)
theorem Sz.mv {D E n m : Nat} {v x : Rat} (h : Sz D n v) (k : Sz E m x) : ∀ j, Sz (D * E ^ j) (n * m ^ j) (CT.mv v x j)
  | 0 => by
    show Sz (D * 1) (n * 1) v
    rw [Nat.mul_one, Nat.mul_one]
    exact h
  | j + 1 => by
    have := (Sz.mv h k j).mul k
    rw [Nat.mul_assoc, Nat.mul_assoc, ← Nat.pow_succ, ← Nat.pow_succ] at this
    exact this
/-- the exponents before i -/
def esum (es : List Int) (i : Nat) : Nat := ((es.take i).map Int.toNat).sum
theorem esum_succ {es : List Int} {i : Nat} (h : i < es.length) : esum es (i + 1) = esum es i + (es.getD i 0).toNat := by
  unfold esum
  rw [List.take_succ, List.map_append, List.sum_append, List.getElem?_eq_getElem h, List.getD_eq_getElem?_getD, List.getElem?_eq_getElem h]
  simp
theorem Sz.mvs {D E n m : Nat} {v : Rat} {xs : List Rat} {es : List Int} (h : Sz D n v) (k : ∀ x ∈ xs, Sz E m x) (hl : es.length ≤ xs.length) : ∀ i, i ≤ es.length → Sz (D * E ^ esum es i) (n * m ^ esum es i) (CT.mvs v xs es i)
  | 0, _ => by
    have e : esum es 0 = 0 := rfl
    rw [e, Nat.pow_zero, Nat.pow_zero, Nat.mul_one, Nat.mul_one]
    exact h
  | i + 1, hi => by
    have h1 := Sz.mvs h k hl i (by omega)
    have hx : Sz E m (xs.getD i 0) := by
      rw [List.getD_eq_getElem?_getD, List.getElem?_eq_getElem (by omega)]
      exact k _ (List.getElem_mem _)
    have h2 := Sz.mv h1 hx (es.getD i 0).toNat
    rw [esum_succ (by omega), Nat.pow_add, Nat.pow_add, ← Nat.mul_assoc, ← Nat.mul_assoc]
    exact h2
theorem sum_nn : ∀ {l : List Int}, (∀ e ∈ l, 0 ≤ e) → 0 ≤ l.sum
  | [], _ => Int.le_refl _
  | a :: l, h => by
    rw [List.sum_cons]
    have := h a List.mem_cons_self
    have := sum_nn fun e he => h e (List.mem_cons_of_mem _ he)
    omega
theorem esum_le {es : List Int} (h : ∀ e ∈ es, 0 ≤ e) : ∀ i, (esum es i : Int) ≤ es.sum := by
  intro i
  induction es generalizing i with
  | nil => unfold esum; simp
  | cons e es ih =>
    cases i with
    | zero =>
      have : ∀ {l : List Int}, (∀ e ∈ l, 0 ≤ e) → 0 ≤ l.sum := fun {l} hl => by
        induction l with
        | nil => exact Int.le_refl _
        | cons a l ihl =>
          rw [List.sum_cons]
          have := hl a List.mem_cons_self
          have := ihl fun e he => hl e (List.mem_cons_of_mem _ he)
          omega
      exact this h
    | succ i =>
      have := ih (fun e he => h e (List.mem_cons_of_mem _ he)) i
      have h0 := h e List.mem_cons_self
      unfold esum at this ⊢
      rw [List.take_succ_cons, List.map_cons, List.sum_cons, List.sum_cons]
      omega
theorem Sz.lift {D E n m d s M : Nat} {q : Rat} (h : Sz (D * E ^ s) (n * m ^ s) q) (hs : s ≤ d) (h1 : m ≤ M) (h2 : E ≤ M) : Sz (D * E ^ d) (n * M ^ d) q := by
  have := h.scale (E ^ (d - s))
  rw [Nat.mul_assoc, ← Nat.pow_add, show s + (d - s) = d by omega] at this
  refine this.mono ?_
  rw [Nat.mul_assoc]
  refine Nat.mul_le_mul_left _ ?_
  calc m ^ s * E ^ (d - s) ≤ M ^ s * M ^ (d - s) := Nat.mul_le_mul (Nat.pow_le_pow_left h1 _) (Nat.pow_le_pow_left h2 _)
    _ = M ^ d := by rw [← Nat.pow_add, show s + (d - s) = d by omega]
/-- sizes that are known of the terms and the point -/
theorem VOk.of {D E n m d M L : Nat} {P : Tab} {xs : List Rat} (hP : ∀ t ∈ P, Sz D n t.2 ∧ t.1.length ≤ xs.length ∧ (∀ e ∈ t.1, 0 ≤ e) ∧ t.1.sum ≤ (d : Int)) (hx : ∀ x ∈ xs, Sz E m x) (h1 : m ≤ M) (h2 : E ≤ M) (hL : P.length ≤ L) (hE : 0 < E) (hM : 0 < M)
    (o : OkS (D * E ^ d) (L * (n * M ^ d))) (oL : 0 < L) (oD : OkS E m) : VOk P xs := by
  have one : ∀ t ∈ P, ∀ i, i ≤ t.1.length → ∀ j, (i < t.1.length → j ≤ (t.1.getD i 0).toNat) → (i = t.1.length → j = 0) → Sz (D * E ^ d) (n * M ^ d) (CT.mv (CT.mvs t.2 xs t.1 i) (xs.getD i 0) j) := fun t ht i hi j hj hj2 => by
    obtain ⟨z, hl, h0, hs⟩ := hP t ht
    have a1 := Sz.mvs z hx hl i hi
    by_cases hlt : i < t.1.length
    · have hx2 : Sz E m (xs.getD i 0) := by
        rw [List.getD_eq_getElem?_getD, List.getElem?_eq_getElem (by omega)]
        exact hx _ (List.getElem_mem _)
      have a2 := Sz.mv a1 hx2 j
      rw [Nat.mul_assoc, Nat.mul_assoc, ← Nat.pow_add, ← Nat.pow_add] at a2
      refine a2.lift ?_ h1 h2
      have := esum_le h0 (i + 1)
      rw [esum_succ hlt] at this
      have := hj hlt
      omega
    · rw [hj2 (by omega)]
      refine a1.lift ?_ h1 h2
      have := esum_le h0 i
      omega
  have wide : ∀ i, i ≤ P.length → Sz (D * E ^ d) (i * (n * M ^ d)) (vsum P xs i) := fun i => by
    induction i with
    | zero => intro _; rw [Nat.zero_mul]; exact Sz.zero _ _
    | succ i ih =>
      intro hi
      have a := ih (by omega)
      have ht : P.getD i ([], 0) ∈ P := by
        rw [List.getD_eq_getElem?_getD, List.getElem?_eq_getElem (by omega)]
        exact List.getElem_mem _
      have b := one _ ht _ (Nat.le_refl _) 0 (fun z => absurd z (Nat.lt_irrefl _)) (fun _ => rfl)
      rw [Nat.succ_mul]
      exact a.add b
  refine ⟨fun x hx' => MidQ.of oD (hx x hx'), fun t ht i hi j hj => ?_, fun t ht => ?_, fun i hi => MidQ.of o ((wide i hi).mono (Nat.mul_le_mul_right _ (by omega)))⟩
  · exact MidQ.of o ((one t ht i (Nat.le_of_lt hi) j (fun _ => hj) (fun z => by omega)).mono (Nat.le_mul_of_pos_left _ oL))
  · exact MidQ.of o ((one t ht _ (Nat.le_refl _) 0 (fun z => absurd z (Nat.lt_irrefl _)) (fun _ => rfl)).mono (Nat.le_mul_of_pos_left _ oL))
end CT
namespace CT
open PySem PySem.Spec PySem.Calls PyProof.Rows L2 He
/-- what was frozen is free again -/
theorem thaw {H Hf H' : Hp} {d : Addr} {u x : HO} (hd : H d = some u) (e : Hf = upd H d x) (s : Same Hf H') : Same H (upd H' d u) := fun b o z => by
  by_cases hb : b = d
  · rw [hb, upd_same]
    rw [hb, hd] at z
    exact z
  · rw [upd_ne hb]
    refine s _ _ ?_
    rw [e, upd_ne hb]
    exact z
end CT

/-! [_law_why(y) for y in lambdas], read at once. -/
namespace CT
open PySem PySem.Spec PySem.Calls PyProof.Rows L2 He LamX
/-- one ask: what it tells, by which lambda -/
def AskOk (K : PySem.W.Frag) (T : List (Addr × Str)) (R : List (Str × Option Str)) (env : Env) (fam : List (LamD × (XK → TE))) (σ : L2.St) (H : Hp) (f : Addr) (t : Str × V) : Prop :=
  okT t = true ∧ ∃ q ∈ fam, LamAt env q.1 f H ∧ ∀ (Hw : Hp) (QQ : VK) (EE : XK), ExtN H Hw → Tabs T Hw → (∀ x cls d H', (t.1, x) ∈ R → Told K t.1 x t.2 cls d H' → (x = none → t.2 = .non) → Same Hw H' → EE cls d H') → (t = (("" : Str), V.non) → ∀ u H', Same Hw H' → QQ u H') → q.2 EE σ Hw QQ
theorem asked {K : PySem.W.Frag} {T : List (Addr × Str)} {R : List (Str × Option Str)} {env : Env} {fam : List (LamD × (XK → TE))} {ja j : Nat} {σ : L2.St} {H : Hp} {Q : VK} {la : Addr} {fs : List Addr} {ts : List (Str × V)}
    (ha : σ[ja]? = some (some (.ref la))) (hl : H la = some (.lst (fs.map V.ref))) (hz : fs.length ≤ 1000) (hlen : ts.length = fs.length) (hj : j < σ.length) (hT : Tabs T H)
    (step : ∀ (i : Nat) (f : Addr) (t : Str × V), fs[i]? = some f → ts[i]? = some t → AskOk K T R env fam σ H f t)
    (fin : ∀ (Lw : Addr) (as : List Addr) (H' : Hp), ExtN H H' → Tabs T H' → H' Lw = some (.lst (as.map V.ref)) → ToldL K H' as ts → Q (.ref Lw) H') :
    tLcI (iList K (tVar ja)) (gName j) tYes (fun σ => tLamV env fam (TWhy K R) j σ) [j] σ H Q := by
  refine ⟨_, ha, la, rfl, ⟨_, .inl (.of hl)⟩, fun Lw hLw => ?_⟩
  have nL : ∀ {b : Addr} {o : HO}, H b = some o → b ≠ Lw := fun {b o} e => ne_of_none e hLw
  refine lc_it (walk_list (xs := fs.map V.ref)) (fun i H' => ∃ as : List Addr, H' Lw = some (.lst (as.map V.ref)) ∧ ToldL K H' as (ts.take i) ∧ ExtN H H' ∧ Tabs T H') ⟨[], upd_same, trivial, fun b o e _ => by rw [upd_ne (ne_of_none e hLw)]; exact e, hT.ext (same_new hLw)⟩ (fun i H' _ hp => ?_) (fun i x H1 H2 hi hp hy => ?_) (fun H' hp => ?_)
  · obtain ⟨as, _, _, e, _⟩ := hp
    exact .inl (.of (e _ _ hl fun _ z => by cases z))
  · obtain ⟨as, h1, h2, e1, t1⟩ := hp
    obtain ⟨rfl, hx⟩ := hy
    rw [List.getElem?_map] at hx
    obtain ⟨f, hf, rfl⟩ := Option.map_eq_some_iff.mp hx
    have hi2 : i < ts.length := by
      rw [List.length_map] at hi
      omega
    have ht : ts[i]? = some ts[i] := List.getElem?_eq_getElem hi2
    obtain ⟨okt, q, hq, hla, body⟩ := step i f _ hf ht
    have et : ts.take (i + 1) = ts.take i ++ [ts[i]] := by rw [List.take_succ, ht]; rfl
    have las : as.length ≤ 1000 := by
      rw [h2.len, List.length_take]
      omega
    -- what a told tuple does
    have fini : ∀ (p : Addr) (H' : Hp), Same H2 H' → H' p = some (.tup [.str ts[i].1, ts[i].2]) → ∃ acc, H' Lw = some (.lst acc) ∧ acc.length < sizeLine ∧ ∃ as : List Addr, upd H' Lw (.lst (acc ++ [V.ref p])) Lw = some (.lst (as.map V.ref)) ∧ ToldL K (upd H' Lw (.lst (acc ++ [V.ref p]))) as (ts.take (i + 1)) ∧ ExtN H (upd H' Lw (.lst (acc ++ [V.ref p]))) ∧ Tabs T (upd H' Lw (.lst (acc ++ [V.ref p]))) := by
      intro p H' s hp
      have eL := s _ _ h1
      have bu : ∀ b o, b ≠ Lw → H' b = some o → upd H' Lw (.lst (as.map V.ref ++ [V.ref p])) b = some o := fun b o h z => by
        rw [upd_ne h]
        exact z
      have tk : TK K H' (upd H' Lw (.lst (as.map V.ref ++ [V.ref p]))) := TK.but eL (fun _ z => by cases z) (fun _ _ z => by cases z) bu
      refine ⟨_, eL, by rw [List.length_map]; exact Nat.lt_of_le_of_lt las (by decide), as ++ [p], by rw [upd_same, List.map_append]; rfl, ?_, fun b o e n => ?_, CT.Tabs.but (t1.ext s) eL bu⟩
      · rw [et]
        exact ((h2.same s).but tk).app ⟨tk _ _ (.inl (.inl hp)), okt, trivial⟩
      · exact bu _ _ (nL e) (s _ _ (e1 _ _ e n))
    refine ⟨?_, f, ?_, q, hq, hla.ext e1, fun p Hw hp s1 ew QQ EE hQ hE => body Hw QQ EE (e1.trans (ExtN.of s1)) (t1.ext s1) (fun x cls d H' hm htold hx s2 => hE cls d H' ⟨_, x, _, hm, htold, hx, fun q' H3 _ s3 e3 => fini q' H3 (s1.trans (s2.trans s3)) e3⟩) (fun e u H' s2 => hQ u H' (fini p H' (s1.trans s2) ?_))⟩
    · show ((σ.set j none).set j (some (V.ref f))).set j none = σ.set j none
      rw [List.set_set, List.set_set]
    · unfold wipe
      rw [List.getElem?_set_self]
      show j < (wipe σ [j]).length
      rw [wipe_length]
      exact hj
    · rw [e]
      exact s2 _ _ ew
  · obtain ⟨as, h1, h2, e1, t1⟩ := hp
    rw [List.take_of_length_le (by rw [List.length_map]; omega)] at h2
    exact fin Lw as H' e1 t1 h1 h2
theorem rep_refs (t : Addr) : ∀ n : Nat, (List.replicate n [V.ref t]).flatten = (List.replicate n t).map V.ref
  | 0 => rfl
  | n + 1 => by
    rw [List.replicate_succ, List.replicate_succ, List.flatten_cons, List.map_cons, rep_refs t n]
    rfl
end CT

namespace CT
open PySem PySem.Spec PySem.Calls PyProof.Rows L2 He
/-! ### _law_why -/
theorem gives_whyG {X : Cx} {g : Addr} {cdg : Value} {R : List (Str × Option Str)} (gE : ∀ m ∈ whyNames, X.mg m = some (.ref (ga X.K m))) (hR : ∀ n x, (n, x) ∈ R → WhyC X.K n x ∧ (∀ c ∈ whyCl, n ∈ c.1 → c.2 = x) ∧ ∃ c ∈ whyCl, n ∈ c.1) :
    GivesG X n_law_why "_law_why" (defScope s_law_why) g cdg (defBody s_law_why) (TWhy X.K R) "_law_ask" := by
  intro f Gd s H Q tl hGd act hc h
  refine ⟨_, pss_cons (ps_set (i := 1) sc_law_why.nd rfl (.inl rfl) (pe_tup (pa_cons pe_str (pa_cons pe_non pa_nil))))
      (pss_cons (ps_try_manyAs (i := 2) (n := "e") (l := whyL X.K whyCl) (tb := fun W D σ H => tSeq (tDrop (fun σ H Q => σ[0]? = some (some (.ref f)) ∧ Gd H ∧ ∃ E : XK, (∀ cls d H', E cls d H' → W cls d σ H') ∧ tl E H Q)) tNext D σ H)
        rfl rfl sc_law_why.nd rfl rfl L2.takes0 (fun W pn xe tk _ => pss_one (ps_expr (act W pn xe _ _ tk)))
        (HdsAs.cons (ClTest.tup (NamesL.cons ⟨rfl, by decide, .inl (gE "InvalidRatio" (by decide +kernel))⟩ (NamesL.cons ⟨rfl, by decide, .inl (gE "InvalidDegree" (by decide +kernel))⟩ (NamesL.cons ⟨rfl, by decide, .inl (gE "InvalidLimit" (by decide +kernel))⟩ NamesL.nil))) (by show 3 ≤ 100; decide)) (fun a oe cls d pn hz hf => pss_one (ps_set (i := 1) sc_law_why.nd rfl (.inl rfl) (pe_tup (pa_cons (pe_xg hz hf (pv 2)) (pa_cons (pe_xg hz hf (pv 2)) pa_nil))))) (HdsAs.cons (ClTest.tup (NamesL.cons ⟨rfl, by decide, .inl (gE "InvalidTerm" (by decide +kernel))⟩ (NamesL.cons ⟨rfl, by decide, .inl (gE "ParseError" (by decide +kernel))⟩ (NamesL.cons ⟨rfl, by decide, .inl (gE "InvalidLetters" (by decide +kernel))⟩ (NamesL.cons ⟨rfl, by decide, .inl (gE "InvalidBegin" (by decide +kernel))⟩ (NamesL.cons ⟨rfl, by decide, .inl (gE "InvalidMode" (by decide +kernel))⟩ NamesL.nil))))) (by show 5 ≤ 100; decide)) (fun a oe cls d pn hz hf => pss_one (ps_set (i := 1) sc_law_why.nd rfl (.inl rfl) (pe_tup (pa_cons (pe_xg hz hf (pv 2)) (pa_cons (pe_xg hz hf (pv 2)) pa_nil))))) (HdsAs.cons (ClTest.tup (NamesL.cons ⟨rfl, by decide, .inl (gE "InvalidGuard" (by decide +kernel))⟩ (NamesL.cons ⟨rfl, by decide, .inl (gE "UnknownLetter" (by decide +kernel))⟩ (NamesL.cons ⟨rfl, by decide, .inl (gE "InvalidRecoding" (by decide +kernel))⟩ NamesL.nil))) (by show 3 ≤ 100; decide)) (fun a oe cls d pn hz hf => pss_one (ps_set (i := 1) sc_law_why.nd rfl (.inl rfl) (pe_tup (pa_cons (pe_xg hz hf (pv 2)) (pa_cons (pe_xg hz hf (pv 2)) pa_nil))))) (HdsAs.cons (ClTest.one ⟨rfl, by decide, .inl (gE "Mismatch" (by decide +kernel))⟩) (fun a oe cls d pn hz hf => pss_one (ps_set (i := 1) sc_law_why.nd rfl (.inl rfl) (pe_tup (pa_cons (pe_xg hz hf (pv 2)) (pa_cons (pe_xg hz hf (pv 2)) pa_nil))))) (HdsAs.cons (ClTest.tup (NamesL.cons ⟨rfl, by decide, .inl (gE "InvalidName" (by decide +kernel))⟩ (NamesL.cons ⟨rfl, by decide, .inl (gE "DuplicateName" (by decide +kernel))⟩ (NamesL.cons ⟨rfl, by decide, .inl (gE "WrongSort" (by decide +kernel))⟩ (NamesL.cons ⟨rfl, by decide, .inl (gE "UnknownName" (by decide +kernel))⟩ NamesL.nil)))) (by show 4 ≤ 100; decide)) (fun a oe cls d pn hz hf => pss_one (ps_set (i := 1) sc_law_why.nd rfl (.inl rfl) (pe_tup (pa_cons (pe_xg hz hf (pv 2)) (pa_cons (pe_xg hz hf (pv 2)) pa_nil))))) (HdsAs.cons (ClTest.one ⟨rfl, by decide, .inl (gE "CapacityExceeded" (by decide +kernel))⟩) (fun a oe cls d pn hz hf => pss_one (ps_set (i := 1) sc_law_why.nd rfl (.inl rfl) (pe_tup (pa_cons (pe_xg hz hf (pv 2)) (pa_cons (pe_xg hz hf (pv 2)) pa_nil))))) (HdsAs.cons (ClTest.one ⟨rfl, by decide, .inl (gE "InvalidCommand" (by decide +kernel))⟩) (fun a oe cls d pn hz hf => pss_one (ps_set (i := 1) sc_law_why.nd rfl (.inl rfl) (pe_tup (pa_cons (pe_xg hz hf (pv 2)) (pa_cons (pe_xg hz hf (pv 2)) pa_nil))))) (HdsAs.cons (ClTest.one ⟨rfl, by decide, .inl (gE "InUse" (by decide +kernel))⟩) (fun a oe cls d pn hz hf => pss_one (ps_set (i := 1) sc_law_why.nd rfl (.inl rfl) (pe_tup (pa_cons (pe_xg hz hf (pv 2)) (pa_cons (pe_xg hz hf (pv 2)) pa_nil))))) (HdsAs.cons (ClTest.one ⟨rfl, by decide, .inl (gE "Fails" (by decide +kernel))⟩) (fun a oe cls d pn hz hf => pss_one (ps_set (i := 1) sc_law_why.nd rfl (.inl rfl) (pe_tup (pa_cons (pe_xg hz hf (pv 2)) (pa_cons (pe_xg hz hf (pv 2)) pa_nil))))) (HdsAs.cons (ClTest.tup (NamesL.cons ⟨rfl, by decide, .inl (gE "NoLead" (by decide +kernel))⟩ (NamesL.cons ⟨rfl, by decide, .inl (gE "LettersDiffer" (by decide +kernel))⟩ (NamesL.cons ⟨rfl, by decide, .inl (gE "NoText" (by decide +kernel))⟩ (NamesL.cons ⟨rfl, by decide, .inl (gE "NothingLeft" (by decide +kernel))⟩ NamesL.nil)))) (by show 4 ≤ 100; decide)) (fun a oe cls d pn hz hf => pss_one (ps_set (i := 1) sc_law_why.nd rfl (.inl rfl) (pe_tup (pa_cons (pe_xg hz hf (pv 2)) (pa_cons pe_non pa_nil))))) HdsAs.nil)))))))))))
      (pss_one (ps_ret (pv 1)))), ?_⟩
  refine ⟨by decide, fun p hp => ⟨rfl, hGd _ _ (same_new hp) hc, _, fun cls d H' he => ?_, h p _ hp (same_new hp) upd_same _ _ (fun v H' hq => ⟨_, rfl, hq⟩) fun cls d H' he => he⟩⟩
  obtain ⟨n, x, v, hm, ht, hv, hq⟩ := he
  obtain ⟨C, h1, h2⟩ := hR n x hm
  refine why_reads C ht hv ?_ whyCl why_all h1 h2
  exact fun p hp => ⟨_, rfl, hq p _ hp (same_new hp) upd_same⟩
/-- [_law_why(y) for y in ..]: the element -/
theorem pe_whyK {X : Cx} {R : List (Str × Option Str)} {k j : Nat} {fam : List (LamD × (XK → TE))} {pins : List (Addr × Obj)} {σ : L2.St} {s : Shared} {H : Hp} {fp : List Addr} {scope : Scope} {ce : Env} {y : Str} {p py pos : Pos} (B : BlkAt X pins σ H s fp) (D : Dn X.K X.mg "_law_why" s_law_why [])
    (gE : ∀ m ∈ whyNames, X.mg m = some (.ref (ga X.K m))) (hR : ∀ n x, (n, x) ∈ R → WhyC X.K n x ∧ (∀ c ∈ whyCl, n ∈ c.1 → c.2 = x) ∧ ∃ c ∈ whyCl, n ∈ c.1) (hr : Room (k + 2) X.A) (hF : FamOk X k fam) (hy : PE (X.blk s H scope ce fp) (.Name y py) (tVar j)) (hg : Gl (X.blk s H scope ce fp) "_law_why" := by rfl) :
    PE (X.blk s H scope ce fp) (.Call (.Name "_law_why" p) [.Name y py] [] pos) (tLamV X.env fam (TWhy X.K R) j σ) := by
  obtain ⟨fd, F⟩ := D.f
  have kp := F.kp
  have b := F.bindsN (ps := ["_law_ask"]) (fun _ _ _ _ _ _ us hl => match us, hl with | [_], _ => rfl)
  obtain ⟨oc, od, dV, kV, doc, pm, an, cdv, ct, osl, rfl, lk, hcd, _, _⟩ := F.ex
  exact pe_keptB (a := "_law_ask") B hg D.g kp lk hcd b sc_law_why rfl (.inl rfl) (gives_whyG gE hR) hr hF hy
/-- _law_why(lambda: body) -/
theorem pe_why {X : Cx} {R : List (Str × Option Str)} {T : List (Addr × Str)} {c P : Addr} {k : Nat} {params : Arguments} {body : Expr} {scope : Scope} {t : XK → TE} {p lpos pos : Pos} (D : Dn X.K X.mg "_law_why" s_law_why [])
    (gE : ∀ m ∈ whyNames, X.mg m = some (.ref (ga X.K m))) (hR : ∀ n x, (n, x) ∈ R → WhyC X.K n x ∧ (∀ c ∈ whyCl, n ∈ c.1 → c.2 = x) ∧ ∃ c ∈ whyCl, n ∈ c.1)
    (TB : LamX.TabB X.base X.mg c P) (hcode : X.env.code = .ref c) (hmT : (P, X.env.qual ++ "<lambda>") ∈ T) (hu : ∀ p ∈ T, p.1 = P → p.2 = X.env.qual ++ "<lambda>") (hr : Room (k + 2) X.A) (L : LamX.LamS X.env.scope scope) (hdef : defaultsOf params X.env = ([], []))
    (hbind : ∀ (q : Str) (cl : List (Str × Addr)) (pm cv ctv : Value), bindArgs (PySem.W.kla_fn "<lambda>" q params body scope cl pm cv ctv) ⟨[], []⟩ = pure [])
    (hbody : ∀ (A : Around) (outer : List Env) (s : Shared) (H : Hp) (E : XK) (f c' : Addr), Room k (A.deeper (LamX.lamEnv X scope s.heap.objs.size f c')) → PE (LamX.lamCx X A outer s H E scope f c') body (t E)) (hg : Gl X "_law_why" := by rfl) :
    PE X (.Call (.Name "_law_why" p) [.Lambda params body scope lpos] [] pos) (LamX.tLam T (TWhy X.K R) t) := by
  obtain ⟨fd, F⟩ := D.f
  have kp := F.kp
  have b := F.bindsN (ps := ["_law_ask"]) (fun _ _ _ _ _ _ us hl => match us, hl with | [_], _ => rfl)
  obtain ⟨oc, od, dV, kV, doc, pm, an, cdv, ct, osl, rfl, lk, hcd, _, _⟩ := F.ex
  exact pe_lamcallS (k := k) hg D.g kp lk hcd b sc_law_why rfl (.inl rfl) (gives_whyG gE hR).s TB hcode hmT hu hr L hdef hbind hbody

/-! ### _law_gcd, _law_low -/
def spGcd : Sp := fun vs H Q _ => ∃ a b : Int, vs = [.int a, .int b] ∧ Big a ∧ Big b ∧ Q (.int (Int.gcd a b)) H
def spLow : Sp := fun vs H Q _ => ∃ t u : Int, vs = [.int t, .int u] ∧ Big t ∧ Big u ∧ u ≠ 0 ∧ ∀ p H', H p = none → Same H H' → H' p = some (.tup [.int (fracT t u), .int (fracU t u)]) → Q (.ref p) H'
section
variable {P : Program} {w : World} {K : PySem.W.Frag} {mg : Str → Option Value} {base : Heap}
theorem ok_law_gcd (D : Dn K mg "_law_gcd" s_law_gcd []) (m_abs : mg "abs" = none) (m_int : mg "int" = none) : FOk P w K mg base 1 "_law_gcd" ["_law_one", "_law_two"] spGcd := by
  refine D.ok sc_law_gcd (fun _ _ _ _ _ _ us hl => match us, hl with | [_, _], _ => rfl) (fun vs H Q E h => ?_) (fun cdv A outer s H vs Q E hr h => ?_)
  · obtain ⟨a, b, rfl, _⟩ := h
    rfl
  · obtain ⟨a, b, rfl, ha, hb, hq⟩ := h
    refine ⟨_, (pss_cons 
    (ps_par (i := 0) (j := 1) (by rfl) sc_law_gcd.nd rfl rfl (by decide) rfl rfl (pa_cons (pe_callB call_abs (by rfl) m_abs (by decide +kernel) (pa_cons (pv 0) pa_nil)) (pa_cons (pe_callB call_abs (by rfl) m_abs (by decide +kernel) (pa_cons (pv 1) pa_nil)) pa_nil)) (by rfl)) (pss_cons 
    (ps_while PassesOwn.never (pt_cmpR op_ne (pv 1) pe_int (nomark _)) (pss_one 
      (ps_par (i := 0) (j := 1) (by rfl) sc_law_gcd.nd rfl rfl (by decide) rfl rfl (pa_cons (pv 1) (pa_cons (pe_op op_modN (pe_callTy call_int1 (by rfl) m_int (by decide +kernel) (pa_cons (pv 0) pa_nil)) (pv 1)) pa_nil)) (by rfl)))) (pss_one 
    (ps_ret (pv 0))))), ?_⟩
    refine ⟨_, rfl, _, rfl, _, rfl, _, rfl, _, _, rfl, ?_⟩
    refine while_by (fun σ H1 => ∃ x y : Int, σ = [some (.int x), some (.int y)] ∧ 0 ≤ x ∧ 0 ≤ y ∧ Big x ∧ Big y ∧ Int.gcd x y = Int.gcd a b ∧ H1 = H) (fun σ _ => match σ with | [_, some (.int y)] => y.toNat | _ => 0)
      ⟨_, _, rfl, by split <;> omega, by split <;> omega, ha.abs, hb.abs, gcd_abs a b, rfl⟩ (fun σ H1 hp => ?_) (fun σ H Q Q' hq ⟨v, h1, h2, k, h3, h4⟩ => ⟨v, h1, h2, k, h3, hq _ _ h4⟩)
    obtain ⟨x, y, rfl, hx, hy, hx2, hy2, hg, rfl⟩ := hp
    refine ⟨_, rfl, rfl, _, rfl, ?_⟩
    by_cases h0 : y = 0
    · subst h0
      refine iteNS rfl ⟨_, rfl, ?_⟩
      have e := gcd_end x hx
      rw [hg] at e
      rw [← e]
      exact hq
    · have h1 : decide (V.int y = V.int 0) = false := decide_eq_false fun z => h0 (V.int.inj z)
      rw [h1]
      have em : x.fmod y = x % y := Int.fmod_eq_emod_of_nonneg x hy
      have l1 : x % y < y := Int.emod_lt_of_pos x (by omega)
      have l0 : 0 ≤ x % y := Int.emod_nonneg x h0
      refine iteT ⟨_, rfl, _, rfl, .inl ⟨_, rfl, _, rfl, _, _, rfl, rfl, h0, _, _, rfl, ⟨y, x.fmod y, rfl, hy, by omega, hy2, hy2.le (by omega), ?_, rfl⟩, ?_⟩⟩
      · rw [em, gcd_step x y, hg]
      · show (x.fmod y).toNat < y.toNat
        omega
theorem ok_law_low (D : Dn K mg "_law_low" s_law_low []) (h_law_gcd : FOk P w K mg base 1 "_law_gcd" ["_law_one", "_law_two"] spGcd) : FOk P w K mg base 2 "_law_low" ["_law_top", "_law_under"] spLow := by
  refine D.ok sc_law_low (fun _ _ _ _ _ _ us hl => match us, hl with | [_, _], _ => rfl) (fun vs H Q E h => ?_) (fun cdv A outer s H vs Q E hr h => ?_)
  · obtain ⟨a, b, rfl, _⟩ := h
    rfl
  · obtain ⟨t, u, rfl, ht, hu, h0, hq⟩ := h
    refine ⟨_, (pss_cons 
    (ps_set (i := 2) sc_law_low.nd rfl (Or.inl rfl) (pe_callF h_law_gcd (hr.mono (by first | decide | omega)) (pa_cons (pv 0) (pa_cons (pv 1) pa_nil)))) (pss_cons 
    (ps_if (pt_cmpR op_lt (pv 1) pe_int (nomark _)) (pss_one 
      (ps_set (i := 2) sc_law_low.nd rfl (Or.inl rfl) (pe_un un_neg (pv 2)))) pss_nil) (pss_one 
    (ps_ret (pe_tup (pa_cons (pe_op op_fdivZ (pv 0) (pv 2)) (pa_cons (pe_op op_fdivZ (pv 1) (pv 2)) pa_nil))))))), ?_⟩
    refine ⟨_, rfl, _, rfl, t, u, rfl, ht, hu, _, rfl, _, _, rfl, rfl, _, rfl, ?_⟩
    have hg0 : (Int.gcd t u : Int) ≠ 0 := gcd_ne h0
    have hg1 : Big (Int.gcd t u : Int) := big_gcd2 hu h0
    by_cases hn : u < 0
    · refine itT (decide_eq_true hn) ⟨_, rfl, _, rfl, _, rfl, _, rfl, _, _, rfl, rfl, hg1.neg.div (by omega), _, rfl, _, rfl, _, _, rfl, rfl, hg1.neg.div (by omega), sl 2, fun p hp => ?_⟩
      refine hq p _ hp (same_new hp) ?_
      unfold fracT fracU den
      rw [if_pos hn]
      exact upd_same
    · refine itF (decide_eq_false hn) ⟨_, rfl, _, rfl, _, _, rfl, rfl, hg1.div (by omega), _, rfl, _, rfl, _, _, rfl, rfl, hg1.div (by omega), sl 2, fun p hp => ?_⟩
      refine hq p _ hp (same_new hp) ?_
      unfold fracT fracU den
      rw [if_neg hn]
      exact upd_same
end

/-! ### the draws: _law_feed, _law_take, _law_pick -/
/-- the feed at p over the cells ns at c -/
def Feed (H : Hp) (p c : Addr) (ns : List Int) : Prop := ∃ pos big mark : Int, H p = some (.lst [.ref c, .int pos, .int big, .int mark]) ∧ H c = some (.lst (ns.map V.int)) ∧ 0 ≤ pos ∧ ns.length ≤ 63 ∧ pos ≤ (ns.length : Int) ∧ 0 ≤ big ∧ 0 ≤ mark ∧ mark < 2147483648
theorem Feed.ne {H : Hp} {p c : Addr} {ns : List Int} (h : Feed H p c ns) : c ≠ p := by
  obtain ⟨pos, big, mark, h1, h2, _⟩ := h
  refine ne_of h2 h1 fun z => ?_
  have z := HO.lst.inj z
  cases ns with
  | nil => cases z
  | cons n r =>
    have z1 := (List.cons.inj z).1
    cases z1
theorem Feed.keep {H H' : Hp} {p c : Addr} {ns : List Int} (h : Feed H p c ns) (e : Same H H') : Feed H' p c ns := by
  obtain ⟨pos, big, mark, h1, h2, h3⟩ := h
  exact ⟨pos, big, mark, e _ _ h1, e _ _ h2, h3⟩
/-- the same but the feed -/
def But (p : Addr) (H H' : Hp) : Prop := ∀ b o, b ≠ p → H b = some o → H' b = some o
def spFeed (K : PySem.W.Frag) : Sp := fun vs H Q _ => ∃ (a : Addr) (ns : List Int), vs = [.ref a] ∧ SqL K H a (ns.map V.int) ∧ ns.length ≤ 63 ∧ ∀ H' p c, Same H H' → H p = none → H c = none → Feed H' p c ns → Q (.ref p) H'
def spTake : Sp := fun vs H Q _ => ∃ (p c : Addr) (ns : List Int) (m : Int), vs = [.ref p, .int m] ∧ Feed H p c ns ∧ 0 < m ∧ Big m ∧ ∀ r x, 0 ≤ r → r < m → Feed (upd H p x) p c ns → Q (.int r) (upd H p x)
def spPick (K : PySem.W.Frag) : Sp := fun vs H Q _ => ∃ (p c l : Addr) (ns : List Int) (xs : List V), vs = [.ref p, .ref l] ∧ Feed H p c ns ∧ l ≠ p ∧ SqL K H l xs ∧ 0 < xs.length ∧ xs.length ≤ 1000 ∧ ∀ v x, v ∈ xs → Feed (upd H p x) p c ns → Q v (upd H p x)
theorem sqL_but {K : PySem.W.Frag} {H : Hp} {p l : Addr} {x : HO} {xs : List V} (h : SqL K H l xs) (hn : l ≠ p) : SqL K (upd H p x) l xs := by
  rcases h with (h | ⟨o, h⟩) | h
  · exact .inl (.inl (by rw [upd_ne hn]; exact h))
  · exact .inl (.inr ⟨o, by rw [upd_ne hn]; exact h⟩)
  · exact .inr h
theorem cut63 {ns : List Int} (h : ns.length ≤ 63) : cutV (ns.map V.int) none (some 63) = ns.map V.int := by
  unfold cutV
  rw [HT.sIx_none, show HT.sIx (ns.map V.int).length (ns.map V.int).length (some 63) = min 63 (ns.map V.int).length from HT.sIx_nat _ _ 63, List.length_map, Nat.min_eq_right h]
  show ((ns.map V.int).drop 0).take (ns.length - 0) = ns.map V.int
  rw [List.drop_zero, Nat.sub_zero]
  exact List.take_of_length_le (by rw [List.length_map]; exact Nat.le_refl _)
theorem fmod_in {a m : Int} (h : 0 < m) : 0 ≤ a.fmod m ∧ a.fmod m < m := ⟨Int.fmod_nonneg_of_pos a h, Int.fmod_lt_of_pos a h⟩
section
variable {P : Program} {w : World} {K : PySem.W.Frag} {mg : Str → Option Value} {base : Heap}
theorem ok_law_feed (D : Dn K mg "_law_feed" s_law_feed []) (m_list : mg "list" = none) (m_len : mg "len" = none) (m_int : mg "int" = none) : FOk P w K mg base 1 "_law_feed" ["_law_script"] (spFeed K) := by
  refine D.ok sc_law_feed (fun _ _ _ _ _ _ us hl => match us, hl with | [_], _ => rfl) (fun vs H Q E h => ?_) (fun cdv A outer s H vs Q E hr h => ?_)
  · obtain ⟨a, ns, rfl, _⟩ := h
    rfl
  · obtain ⟨a, ns, rfl, hs, hl, hq⟩ := h
    refine ⟨_, (pss_cons 
    (ps_set (i := 1) sc_law_feed.nd rfl (Or.inl rfl) (pe_callTy call_list_of (by rfl) m_list (by decide +kernel) (pa_cons (pe_slice sl_list (pv 0) po_none (po_some pe_int)) pa_nil))) (pss_cons 
    (ps_set (i := 2) sc_law_feed.nd rfl (Or.inl rfl) (pe_op op_add pe_int (pe_op op_mulW pe_int (pe_callB call_len_seq (by rfl) m_len (by decide +kernel) (pa_cons (pv 1) pa_nil))))) (pss_cons 
    (ps_for PassesOwn.never rfl (pi_list (pv 1)) (pg_name (i := 3) sc_law_feed.nd rfl (Or.inl rfl)) (pss_one 
      (ps_set (i := 2) sc_law_feed.nd rfl (Or.inl rfl) (pe_op op_modN (pe_callTy call_int1 (by rfl) m_int (by decide +kernel) (pa_cons (pe_op op_add (pe_op op_add (pe_op op_mulW (pv 2) pe_int) (pe_op op_modN (pe_callTy call_int1 (by rfl) m_int (by decide +kernel) (pa_cons (pv 3) pa_nil)) pe_int)) pe_int) pa_nil)) pe_int)))) (pss_one 
    (ps_ret (pe_lst (pa_cons (pv 1) (pa_cons pe_int (pa_cons pe_int (pa_cons (pv 2) pa_nil)))))))))), ?_⟩
    refine ⟨_, rfl, 63, rfl, a, _, rfl, hs, fun q hq1 => ⟨q, _, rfl, .inl (.of upd_same), fun c hc => ?_⟩⟩
    rw [cut63 hl]
    have hcq : c ≠ q := fun z => by rw [z, upd_same] at hc; cases hc
    have hc0 : H c = none := by rw [upd_ne hcq] at hc; exact hc
    obtain ⟨H1, e1⟩ : ∃ H1, H1 = upd (upd H q (.lst (ns.map V.int))) c (.lst (ns.map V.int)) := ⟨_, rfl⟩
    have sm : Same H H1 := fun b o e => by rw [e1, upd_ne (ne_of_none e hc0), upd_ne (ne_of_none e hq1)]; exact e
    have hc1 : H1 c = some (.lst (ns.map V.int)) := by rw [e1, upd_same]
    rw [← e1]
    refine ⟨_, rfl, c, _, rfl, .inl (.of hc1), 11, _, rfl, rfl, wide_mul (a := 4) (b := 64) (by decide) (by rw [List.length_map]; omega) (by decide) (by decide) (by decide), _, _, rfl, rfl, ?_⟩
    refine ⟨_, rfl, c, rfl, ⟨_, .of hc1⟩, for_list (xs := ns.map V.int) (fun i σ H2 => ∃ m x : _, σ = [some (.ref a), some (.ref c), some (.int m), x] ∧ 0 ≤ m ∧ m < 2147483648 ∧ H2 = H1) ⟨_, none, rfl, by rw [List.length_map]; omega, by rw [List.length_map]; omega, rfl⟩ (fun i σ H2 _ h => ?_) (fun i x σ H2 hx h => ?_) (fun σ H2 h => ?_)⟩
    · obtain ⟨_, _, _, _, _, rfl⟩ := h
      exact .of hc1
    · obtain ⟨m, y, rfl, h0, h1, rfl⟩ := h
      rw [List.getElem?_map] at hx
      obtain ⟨n, _, rfl⟩ := Option.map_eq_some_iff.mp hx
      have b1 := fmod_in (a := n) (m := 1000003) (by decide)
      have b2 := fmod_in (a := m * 16807 + n.fmod 1000003 + 7) (m := 2147483629) (by decide)
      refine ⟨_, rfl, _, _, rfl, rfl, wide_mul (a := 32) (b := 16) (by omega) (by decide) (by decide) (by decide) (by decide), _, rfl, .inl ⟨_, rfl, _, _, rfl, rfl, nz 1000003, _, _, rfl, rfl, _, _, rfl, rfl, .inl ⟨_, rfl, _, _, rfl, rfl, nz 2147483629, _, _, rfl, b2.1, by omega, rfl⟩⟩⟩
    · obtain ⟨m, y, rfl, h0, h1, rfl⟩ := h
      refine ⟨_, rfl, _, rfl, sl 4, fun p hp => ?_⟩
      have hp0 : H p = none := sm.free hp
      refine hq _ p c (fun b o e => ?_) hp0 hc0 ⟨0, 0, m, upd_same, ?_, Int.le_refl _, hl, by omega, Int.le_refl _, h0, h1⟩
      · rw [upd_ne (ne_of_none e hp0)]
        exact sm _ _ e
      · rw [upd_ne (ne_of_none hc1 hp)]
        exact hc1
end

section
variable {P : Program} {w : World} {K : PySem.W.Frag} {mg : Str → Option Value} {base : Heap}
theorem ok_law_take (D : Dn K mg "_law_take" s_law_take []) (m_len : mg "len" = none) (m_int : mg "int" = none) : FOk P w K mg base 1 "_law_take" ["_law_feed_here", "_law_many"] spTake := by
  refine D.ok sc_law_take (fun _ _ _ _ _ _ us hl => match us, hl with | [_, _], _ => rfl) (fun vs H Q E h => ?_) (fun cdv A outer s H vs Q E hr h => ?_)
  · obtain ⟨a, c, ns, m, rfl, _⟩ := h
    rfl
  · obtain ⟨p, c, ns, m, rfl, hf, hm0, hmb, hq⟩ := h
    refine ⟨_, (pss_cut 
    (ps_if (PW.pt (pw_and (pt_cmpR op_eq (pe_ix ix_list (pv 0) pe_int (fun _ _ => rfl)) pe_int (nomark _)) (pw_and1 (pt_cmpR op_lt (pe_ix ix_list (pv 0) pe_int (fun _ _ => rfl)) (pe_callB call_len_seq (by rfl) m_len (by decide +kernel) (pa_cons (pe_ix ix_list (pv 0) pe_int (fun _ _ => rfl)) pa_nil)) (nomark _))))) (pss_cons 
      (ps_set (i := 2) sc_law_take.nd rfl (Or.inl rfl) (pe_ix ix_list (pe_ix ix_list (pv 0) pe_int (fun _ _ => rfl)) (pe_ix ix_list (pv 0) pe_int (fun _ _ => rfl)) (fun _ _ => rfl))) (pss_cons 
      (ps_asg (pe_op op_add (pe_ix ix_list (pv 0) pe_int (fun _ _ => rfl)) pe_int) (pg_sub (pv 0) pe_int set_list)) (pss_one 
      (ps_if (pt_cmpR op_ge (pv 2) (pe_op op_pow pe_int pe_int) (nomark _)) (pss_one 
        (ps_asg (pv 2) (pg_sub (pv 0) pe_int set_list))) (pss_cons 
        (ps_set (i := 3) sc_law_take.nd rfl (Or.inl rfl) (pe_op op_add (pe_op op_mulW (pe_ix ix_list (pv 0) pe_int (fun _ _ => rfl)) pe_int) (pe_op op_modN (pe_callTy call_int1 (by rfl) m_int (by decide +kernel) (pa_cons (pv 2) pa_nil)) pe_int))) (pss_one 
        (ps_asg (pe_op op_modN (pe_callTy call_int1 (by rfl) m_int (by decide +kernel) (pa_cons (pe_op op_add (pv 3) (pe_op op_mulW (pe_ix ix_list (pv 0) pe_int (fun _ _ => rfl)) pe_int)) pa_nil)) pe_int) (pg_sub (pv 0) pe_int set_list)))))))) pss_nil) (pss_cons 
    (ps_if (pt_cmpR op_gt (pe_ix ix_list (pv 0) pe_int (fun _ _ => rfl)) pe_int (nomark _)) (pss_cons 
      (ps_set (i := 4) sc_law_take.nd rfl (Or.inl rfl) (pe_op op_modN (pe_callTy call_int1 (by rfl) m_int (by decide +kernel) (pa_cons (pe_ix ix_list (pv 0) pe_int (fun _ _ => rfl)) pa_nil)) (pv 1))) (pss_cons 
      (ps_asg (pe_op op_fdivW (pe_ix ix_list (pv 0) pe_int (fun _ _ => rfl)) (pv 1)) (pg_sub (pv 0) pe_int set_list)) (pss_one 
      (ps_ret (pv 4))))) pss_nil) (pss_cons 
    (ps_asg (pe_op op_modN (pe_callTy call_int1 (by rfl) m_int (by decide +kernel) (pa_cons (pe_op op_add (pe_op op_mulW (pe_ix ix_list (pv 0) pe_int (fun _ _ => rfl)) pe_int) pe_int) pa_nil)) pe_int) (pg_sub (pv 0) pe_int set_list)) (pss_one 
    (ps_ret (pe_op op_modN (pe_callTy call_int1 (by rfl) m_int (by decide +kernel) (pa_cons (pe_op op_fdivW (pe_op op_modN (pe_callTy call_int1 (by rfl) m_int (by decide +kernel) (pa_cons (pe_op op_mulW (pe_ix ix_list (pv 0) pe_int (fun _ _ => rfl)) (pe_ix ix_list (pv 0) pe_int (fun _ _ => rfl))) pa_nil)) pe_int) pe_int) pa_nil)) (pv 1))))))), ?_⟩
    have hne := hf.ne
    obtain ⟨pos, big, mark, h1, h2, hp0, hl, hp1, hb0, hk0, hk1⟩ := hf
    have fd : ∀ pos big mark : Int, 0 ≤ pos → pos ≤ (ns.length : Int) → 0 ≤ big → 0 ≤ mark → mark < 2147483648 → Feed (upd H p (.lst [.ref c, .int pos, .int big, .int mark])) p c ns := fun pos big mark a1 a2 a3 a4 a5 =>
      ⟨pos, big, mark, upd_same, by rw [upd_ne hne]; exact h2, a1, hl, a2, a3, a4, a5⟩
    -- behind the first test
    refine ⟨fun σ H' => ∃ (x2 x3 : Option V) (pos big mark : Int), σ = [some (.ref p), some (.int m), x2, x3, none] ∧ H' = upd H p (.lst [.ref c, .int pos, .int big, .int mark]) ∧ 0 ≤ pos ∧ pos ≤ (ns.length : Int) ∧ 0 ≤ big ∧ 0 ≤ mark ∧ mark < 2147483648, ?_, fun σ H' hw => ?_⟩
    · have same : H = upd H p (.lst [.ref c, .int pos, .int big, .int mark]) := by
        funext b
        by_cases e : b = p
        · rw [e, upd_same, h1]
        · rw [upd_ne e]
      refine ⟨_, rfl, p, _, 2, .int big, rfl, rfl, .of h1, rfl, rfl, _, rfl, ?_⟩
      refine it2 (fun e1 => ?_) (fun e1 => ?_)
      · have eb : big = 0 := V.int.inj (of_decide_eq_true e1)
        subst eb
        refine ⟨_, rfl, p, _, 1, .int pos, rfl, rfl, .of h1, rfl, _, rfl, p, _, 0, .ref c, rfl, rfl, .of h1, rfl, c, _, rfl, .inl (.of h2), _, _, rfl, rfl, _, rfl, itD (fun e2 => ?_) (fun e2 => ?_)⟩
        · have hlt : pos.toNat < ns.length := by
            rw [List.length_map] at e2
            omega
          have ep : pos = (pos.toNat : Int) := by omega
          obtain ⟨z, hz⟩ : ∃ z, ns[pos.toNat]? = some z := ⟨_, List.getElem?_eq_getElem hlt⟩
          have ha : atI (ns.map V.int) pos = some (.int z) := by
            rw [ep]
            exact atI_nat (by rw [List.getElem?_map, hz]; rfl)
          refine ⟨_, rfl, p, _, 0, .ref c, rfl, rfl, .of h1, rfl, _, rfl, p, _, 1, .int pos, rfl, rfl, .of h1, rfl, c, _, pos, .int z, rfl, rfl, .of h2, ha, ?_⟩
          refine ⟨_, rfl, p, _, 1, .int pos, rfl, rfl, .of h1, rfl, _, _, rfl, rfl, _, rfl, p, _, 1, 1, rfl, rfl, h1, rfl, ?_⟩
          refine ⟨_, rfl, 10, 18, rfl, rfl, ⟨by decide, by decide, by decide⟩, _, _, rfl, rfl, _, rfl, itD (fun e3 => ?_) (fun e3 => ?_)⟩
          · refine ⟨_, rfl, _, rfl, p, _, 2, 2, rfl, rfl, upd_same, rfl, some (.int z), none, pos + 1, z, mark, rfl, by rw [upd_upd]; rfl, by omega, by omega, ?_, hk0, hk1⟩
            exact Int.le_trans (by decide) e3
          · have b0 := fmod_in (a := z) (m := 2147483563) (by decide)
            refine ⟨_, rfl, p, _, 3, .int mark, rfl, rfl, .of upd_same, rfl, _, _, rfl, rfl, wide_mul (a := 32) (b := 17) (by omega) (by decide) (by decide) (by decide) (by decide), _, rfl, .inl ⟨_, rfl, _, _, rfl, rfl, nz 2147483563, _, _, rfl, rfl, ?_⟩⟩
            have b1 := fmod_in (a := mark * 48271 + z.fmod 2147483563 + (pos + 1) * 907) (m := 2147483647) (by decide)
            refine ⟨_, rfl, _, rfl, p, _, 1, .int (pos + 1), rfl, rfl, .of upd_same, rfl, _, _, rfl, rfl, wide_mul (a := 8) (b := 10) (by omega) (by decide) (by decide) (by decide) (by decide), _, _, rfl, rfl, .inl ⟨_, rfl, _, _, rfl, rfl, nz 2147483647, _, rfl, p, _, 3, 3, rfl, rfl, upd_same, rfl, ?_⟩⟩
            exact ⟨some (.int z), some (.int (mark * 48271 + z.fmod 2147483563)), pos + 1, 0, _, rfl, by rw [upd_upd]; rfl, by omega, by omega, by decide, b1.1, by omega⟩
        · exact ⟨none, none, pos, 0, mark, rfl, same, hp0, hp1, hb0, hk0, hk1⟩
      · refine itF rfl ?_
        exact ⟨none, none, pos, big, mark, rfl, same, hp0, hp1, hb0, hk0, hk1⟩
    · obtain ⟨x2, x3, pos, big, mark, rfl, rfl, a1, a2, a3, a4, a5⟩ := hw
      have u1 : (upd H p (.lst [.ref c, .int pos, .int big, .int mark])) p = some (.lst [.ref c, .int pos, .int big, .int mark]) := upd_same
      refine ⟨_, rfl, p, _, 2, .int big, rfl, rfl, .of u1, rfl, _, _, rfl, rfl, _, rfl, itD (fun e2 => ?_) (fun e2 => ?_)⟩
      · have b1 := fmod_in (a := big) hm0
        refine ⟨_, rfl, p, _, 2, .int big, rfl, rfl, .of u1, rfl, .inl ⟨_, rfl, _, rfl, _, _, rfl, rfl, by omega, ?_⟩⟩
        refine ⟨_, rfl, p, _, 2, .int big, rfl, rfl, .of u1, rfl, _, rfl, _, _, rfl, rfl, hmb.divW hm0, _, rfl, p, _, 2, 2, rfl, rfl, u1, rfl, _, rfl, ?_⟩
        rw [upd_upd]
        exact hq _ _ b1.1 b1.2 (fd pos (big / m) mark a1 a2 (Int.ediv_nonneg a3 (by omega)) a4 a5)
      · have b1 := fmod_in (a := mark * 69621 + 17) (m := 2147483647) (by decide)
        refine ⟨_, rfl, p, _, 3, .int mark, rfl, rfl, .of u1, rfl, _, _, rfl, rfl, wide_mul (a := 32) (b := 18) (by omega) (by decide) (by decide) (by decide) (by decide), _, _, rfl, rfl, .inl ⟨_, rfl, _, _, rfl, rfl, nz 2147483647, _, rfl, p, _, 3, 3, rfl, rfl, u1, rfl, ?_⟩⟩
        rw [upd_upd]
        have b2 := fmod_in (a := ((mark * 69621 + 17).fmod 2147483647) * ((mark * 69621 + 17).fmod 2147483647)) (m := 998244353) (by decide)
        have b3 := fmod_in (a := (((mark * 69621 + 17).fmod 2147483647) * ((mark * 69621 + 17).fmod 2147483647)).fmod 998244353 / 19) hm0
        have hf2 := fd pos big ((mark * 69621 + 17).fmod 2147483647) a1 a2 a3 b1.1 (by omega)
        refine ⟨_, rfl, p, _, 3, .int ((mark * 69621 + 17).fmod 2147483647), rfl, rfl, .of upd_same, rfl, _, rfl, p, _, 3, .int ((mark * 69621 + 17).fmod 2147483647), rfl, rfl, .of upd_same, rfl, _, _, rfl, rfl, wide_mul (a := 32) (b := 32) (by omega) (by omega) (by decide) (by decide) (by decide), .inl ⟨_, rfl, _, _, rfl, rfl, nz 998244353, _, _, rfl, rfl,
          wide_div (b := 5) (by decide) (by decide) (by decide) (by decide), .inl ⟨_, rfl, _, rfl, _, _, rfl, rfl, by omega, ?_⟩⟩⟩
        have := hq _ _ b3.1 b3.2 hf2
        exact this
end
/-! ### what stays -/
theorem Feed.lst {H : Hp} {p c : Addr} {ns : List Int} (h : Feed H p c ns) : ∃ xs, H p = some (.lst xs) := by
  obtain ⟨_, _, _, h, _⟩ := h
  exact ⟨_, h⟩
theorem Feed.new {H : Hp} {p c l : Addr} {ns : List Int} {o : HO} (h : Feed H p c ns) (hl : H l = none) : Feed (upd H l o) p c ns := h.keep (same_new hl)
theorem Feed.far {H : Hp} {p c l : Addr} {ns : List Int} (h : Feed H p c ns) (hl : H l = none) : l ≠ p := by
  obtain ⟨xs, e⟩ := h.lst
  exact (ne_of_none e hl).symm
theorem tabs_new {T : List (Addr × Str)} {H : Hp} {l : Addr} {o : HO} (t : LamX.Tabs T H) (hl : H l = none) : LamX.Tabs T (upd H l o) := t.ext (same_new hl)
theorem tabs_draw {T : List (Addr × Str)} {H : Hp} {p c : Addr} {ns : List Int} {x : HO} (t : LamX.Tabs T H) (h : Feed H p c ns) : LamX.Tabs T (upd H p x) := by
  obtain ⟨xs, e⟩ := h.lst
  exact Tabs.but t e but_upd
/-- the heap behind a draw -/
structure Nxt (p c : Addr) (ns : List Int) (H H' : Hp) : Prop where
  f : Feed H' p c ns
  but : ∀ b o, b ≠ p → H b = some o → H' b = some o
theorem Nxt.tabs {T : List (Addr × Str)} {H H' : Hp} {p c : Addr} {ns : List Int} (n : Nxt p c ns H H') (h : Feed H p c ns) (t : LamX.Tabs T H) : LamX.Tabs T H' := by
  obtain ⟨xs, e⟩ := h.lst
  exact Tabs.but t e n.but
theorem Nxt.at {H H' : Hp} {p c b : Addr} {o : HO} {ns : List Int} (n : Nxt p c ns H H') (hn : b ≠ p) (h : H b = some o) : H' b = some o := n.but _ _ hn h
def spTakeA : Sp := fun vs H Q _ => ∃ (p c : Addr) (ns : List Int) (m : Int), vs = [.ref p, .int m] ∧ Feed H p c ns ∧ 0 < m ∧ Big m ∧ ∀ r H', 0 ≤ r → r < m → Nxt p c ns H H' → Q (.int r) H'
theorem FOkX.takeA {P : Program} {w : World} {K : PySem.W.Frag} {mg : Str → Option Value} {base : Heap} {k : Nat} {n : Str} {ps : List Str} (F : FOk P w K mg base k n ps spTake) : FOk P w K mg base k n ps spTakeA :=
  F.imp fun vs H Q E ⟨p, c, ns, m, e, h1, h2, h3, h4⟩ => ⟨p, c, ns, m, e, h1, h2, h3, fun r x a b f => h4 r _ a b ⟨f, but_upd⟩⟩
theorem Feed.extN {H H' : Hp} {p c : Addr} {ns : List Int} (h : Feed H p c ns) (e : LamX.ExtN H H') : Feed H' p c ns := by
  obtain ⟨pos, big, mark, h1, h2, h3⟩ := h
  exact ⟨pos, big, mark, e _ _ h1 (fun _ z => by cases z), e _ _ h2 (fun _ z => by cases z), h3⟩
theorem Nxt.trans {H H1 H2 : Hp} {p c : Addr} {ns : List Int} (a : Nxt p c ns H H1) (b : Nxt p c ns H1 H2) : Nxt p c ns H H2 := ⟨b.f, fun x o hx e => b.but _ _ hx (a.but _ _ hx e)⟩
theorem Nxt.same {H H1 H2 : Hp} {p c : Addr} {ns : List Int} (a : Nxt p c ns H H1) (s : Same H1 H2) : Nxt p c ns H H2 := ⟨a.f.keep s, fun x o hx e => s _ _ (a.but _ _ hx e)⟩
theorem Feed.tup_ne {H : Hp} {p c r : Addr} {ns : List Int} {xs : List V} (h : Feed H p c ns) (e : H r = some (.tup xs)) : r ≠ p := by
  obtain ⟨ys, q⟩ := h.lst
  exact ne_of e q fun z => by cases z
theorem sqL_nxt {K : PySem.W.Frag} {H H' : Hp} {p c l : Addr} {ns : List Int} {xs : List V} (n : Nxt p c ns H H') (hn : l ≠ p) (h : SqL K H l xs) : SqL K H' l xs := by
  rcases h with (h | ⟨o, h⟩) | h
  · exact .inl (.inl (n.at hn h))
  · exact .inl (.inr ⟨o, n.at hn h⟩)
  · exact .inr h
theorem Feed.off {H : Hp} {p c l : Addr} {ns : List Int} {o : HO} (h : Feed H p c ns) (hp : p ≠ l) (hc : c ≠ l) : Feed (upd H l o) p c ns := by
  obtain ⟨pos, big, mark, h1, h2, h3⟩ := h
  exact ⟨pos, big, mark, by rw [upd_ne hp]; exact h1, by rw [upd_ne hc]; exact h2, h3⟩
theorem Feed.offs {H : Hp} {p c l : Addr} {ns : List Int} (h : Feed H p c ns) (hl : H l = none) : p ≠ l ∧ c ≠ l := by
  obtain ⟨pos, big, mark, h1, h2, h3⟩ := h
  exact ⟨ne_of_none h1 hl, ne_of_none h2 hl⟩

/-! ### _law_pick -/
section
variable {P : Program} {w : World} {K : PySem.W.Frag} {mg : Str → Option Value} {base : Heap}
theorem ok_law_pick (D : Dn K mg "_law_pick" s_law_pick []) (h_law_take : FOk P w K mg base 1 "_law_take" ["_law_feed_here", "_law_many"] spTake) (m_len : mg "len" = none) : FOk P w K mg base 2 "_law_pick" ["_law_feed_here", "_law_things"] (spPick K) := by
  refine D.ok sc_law_pick (fun _ _ _ _ _ _ us hl => match us, hl with | [_, _], _ => rfl) (fun vs H Q E h => ?_) (fun cdv A outer s H vs Q E hr h => ?_)
  · obtain ⟨_, _, _, _, _, rfl, _⟩ := h
    rfl
  · obtain ⟨p, c, l, ns, xs, rfl, hf, hne, hs, h0, h1, hq⟩ := h
    refine ⟨_, (pss_one 
    (ps_ret (pe_ix ix_list (pv 1) (pe_callF h_law_take (hr.mono (by first | decide | omega)) (pa_cons (pv 0) (pa_cons (pe_callB call_len_seq (by rfl) m_len (by decide +kernel) (pa_cons (pv 1) pa_nil)) pa_nil))) (fun _ _ => rfl)))), ?_⟩
    refine ⟨_, rfl, _, rfl, _, rfl, l, xs, rfl, .inl hs, p, c, ns, _, rfl, hf, by omega, big_small (n := 64) (by omega) (by decide), fun r x r0 r1 hf2 => ?_⟩
    obtain ⟨k, rfl⟩ : ∃ k : Nat, r = k := ⟨r.toNat, by omega⟩
    have hr2 : k < xs.length := by omega
    exact ⟨l, xs, k, xs[k], rfl, rfl, sqL_but hs hne, atI_nat (List.getElem?_eq_getElem hr2), hq _ _ (List.getElem_mem hr2) hf2⟩
end
def spPickA (K : PySem.W.Frag) : Sp := fun vs H Q _ => ∃ (p c l : Addr) (ns : List Int) (xs : List V), vs = [.ref p, .ref l] ∧ Feed H p c ns ∧ l ≠ p ∧ SqL K H l xs ∧ 0 < xs.length ∧ xs.length ≤ 1000 ∧ ∀ v H', v ∈ xs → Nxt p c ns H H' → Q v H'
theorem FOkX.pickA {P : Program} {w : World} {K : PySem.W.Frag} {mg : Str → Option Value} {base : Heap} {k : Nat} {n : Str} {ps : List Str} (F : FOk P w K mg base k n ps (spPick K)) : FOk P w K mg base k n ps (spPickA K) :=
  F.imp fun vs H Q E ⟨p, c, l, ns, xs, e, h1, h2, h3, h4, h5, h6⟩ => ⟨p, c, l, ns, xs, e, h1, h2, h3, h4, h5, fun v x a f => h6 v _ a ⟨f, but_upd⟩⟩

/-! ### _law_same of equal data -/
def spSame (K : PySem.W.Frag) : Nat → Sp
  | 0 => fun _ _ _ _ => False
  | n + 1 => fun vs H Q _ => ∃ x y, vs = [x, y] ∧ EqD K H n x y ∧ ∀ H', Same H H' → Q (.bl true) H'
theorem tyx_t {K : PySem.W.Frag} {H : Hp} {a : Addr} {xs : List V} (h : SqT K H a xs) : TyX K H (.ref a) (.type "tuple") := by
  rcases h with (h | ⟨o, h⟩) | ⟨o, its, n, h, c, _⟩
  · exact .base (.tup h)
  · exact .fTuple h
  · exact .kTuple h c
theorem tyx_l {K : PySem.W.Frag} {H : Hp} {a : Addr} {xs : List V} (h : SqL K H a xs) : TyX K H (.ref a) (.type "list") := by
  rcases h with (h | ⟨o, h⟩) | ⟨o, its, n, h, c, _⟩
  · exact .base (.lst h)
  · exact .base (.frz h)
  · exact .kList h c
theorem kit_is {K : PySem.W.Frag} {t : String} {b1 b2 : Bool} (e1 : kitB t "int" = some b1) (e2 : kitB t "str" = some b2) : PySem.W.kitAny K (.type t) [.type "int", .type "str"] = some (b1 || b2) := by
  refine kitAny_cons (kit_ty e1) (fun h => kitAny_cons (r := b1 || b2) (kit_ty e2) (fun h2 => ?_) fun h2 => ?_) fun h => ?_
  · rw [h, h2]
    rfl
  · rw [h2, Bool.or_true]
  · rw [h]
    rfl
theorem walk_zipT {K : PySem.W.Frag} {a b : Addr} {xs ys : List V} {n : Nat} (hn : n = min xs.length ys.length) : Walk (RZ.ItzT K a b) n (fun H => SqT K H a xs ∧ SqT K H b ys) (YPair (fun i => xs[i]?) (fun i => ys[i]?)) := by
  subst hn
  refine ⟨fun i _ hi q => ?_, fun _ q => ⟨xs, ys, q.1, q.2, by omega⟩, fun i H v H' _ q y => ?_⟩
  · have h1 : i < xs.length := by omega
    have h2 : i < ys.length := by omega
    exact ⟨xs, ys, xs[i], ys[i], q.1, q.2, by simp [h1], by simp [h2]⟩
  · obtain ⟨T, x, z, h1, h2, h3, h4, h5⟩ := y
    exact ⟨T, x, z, h1, h2, h3, h4 xs q.1, h5 ys q.2⟩
section
variable {P : Program} {w : World} {K : PySem.W.Frag} {mg : Str → Option Value} {base : Heap}
theorem ok_law_same (D : Dn K mg "_law_same" s_law_same []) (m_isinstance : mg "isinstance" = none) (m_bool : mg "bool" = none) (m_int : mg "int" = none) (m_str : mg "str" = none) (m_tuple : mg "tuple" = none) (m_list : mg "list" = none) (m_len : mg "len" = none) (m_all : mg "all" = none) (m_zip : mg "zip" = none) :
    ∀ n : Nat, FOk P w K mg base n "_law_same" ["_law_found", "_law_due"] (spSame K n)
  | 0 => by
    obtain ⟨fd, F⟩ := D.f
    exact ⟨D.g, F.kp, fd, ⟨fun _ _ _ _ h => h.elim, fun _ _ _ _ _ _ _ _ _ _ _ _ _ h => h.elim⟩, F.bindsN (fun _ _ _ _ _ _ us hl => match us, hl with | [_, _], _ => rfl)⟩
  | n + 1 => by
    have h_law_same := ok_law_same D m_isinstance m_bool m_int m_str m_tuple m_list m_len m_all m_zip n
    refine D.ok sc_law_same (fun _ _ _ _ _ _ us hl => match us, hl with | [_, _], _ => rfl) (fun vs H Q E h => ?_) (fun cdv A outer s H vs Q E hr h => ?_)
    · obtain ⟨_, _, rfl, _⟩ := h
      rfl
    · obtain ⟨x, y, rfl, hd, hq⟩ := h
      refine ⟨_, (pss_cons 
    (ps_if (pt_cmpR op_isN (pv 1) pe_non (nomark _)) (pss_one 
      (ps_ret (pe_cmpR op_isN (pv 0) pe_non (nomark _)))) pss_nil) (pss_cons 
    (ps_if (PW.pt (pw_or (pt_val (pe_callB call_isi (by rfl) m_isinstance (by decide +kernel) (pa_cons (pv 1) (pa_cons (pe_bty (T := "bool") m_bool) pa_nil)))) (pw_or1 (pt_val (pe_callB call_isi (by rfl) m_isinstance (by decide +kernel) (pa_cons (pv 0) (pa_cons (pe_bty (T := "bool") m_bool) pa_nil))))))) (pss_one 
      (ps_ret (pe_and (pe_callB call_isi (by rfl) m_isinstance (by decide +kernel) (pa_cons (pv 1) (pa_cons (pe_bty (T := "bool") m_bool) pa_nil))) (pe_and (pe_callB call_isi (by rfl) m_isinstance (by decide +kernel) (pa_cons (pv 0) (pa_cons (pe_bty (T := "bool") m_bool) pa_nil))) (pe_one (pe_cmpR op_eq (pv 0) (pv 1) (nomark _))))))) pss_nil) (pss_cons 
    (ps_if (pt_val (pe_callB call_isiT (by rfl) m_isinstance (by decide +kernel) (pa_cons (pv 1) (pa_cons (pe_tup (pa_cons (pe_bty (T := "int") m_int) (pa_cons (pe_bty (T := "str") m_str) pa_nil))) pa_nil)))) (pss_one 
      (ps_ret (pe_and (pe_callB call_isiT (by rfl) m_isinstance (by decide +kernel) (pa_cons (pv 0) (pa_cons (pe_tup (pa_cons (pe_bty (T := "int") m_int) (pa_cons (pe_bty (T := "str") m_str) pa_nil))) pa_nil))) (pe_and (pe_cmpR op_eq (pe_callB call_isi (by rfl) m_isinstance (by decide +kernel) (pa_cons (pv 0) (pa_cons (pe_bty (T := "int") m_int) pa_nil))) (pe_callB call_isi (by rfl) m_isinstance (by decide +kernel) (pa_cons (pv 1) (pa_cons (pe_bty (T := "int") m_int) pa_nil))) (nomark _)) (pe_one (pe_cmpR op_eq (pv 0) (pv 1) (nomark _))))))) pss_nil) (pss_cons 
    (ps_if (PW.pt (pw_or (pt_cmpR op_ne (pe_callB call_isi (by rfl) m_isinstance (by decide +kernel) (pa_cons (pv 1) (pa_cons (pe_bty (T := "tuple") m_tuple) pa_nil))) (pe_callB call_isi (by rfl) m_isinstance (by decide +kernel) (pa_cons (pv 0) (pa_cons (pe_bty (T := "tuple") m_tuple) pa_nil))) (nomark _)) (pw_or1 (pt_cmpR op_ne (pe_callB call_isi (by rfl) m_isinstance (by decide +kernel) (pa_cons (pv 1) (pa_cons (pe_bty (T := "list") m_list) pa_nil))) (pe_callB call_isi (by rfl) m_isinstance (by decide +kernel) (pa_cons (pv 0) (pa_cons (pe_bty (T := "list") m_list) pa_nil))) (nomark _))))) (pss_one 
      (ps_ret pe_bl)) pss_nil) (pss_one 
    (ps_ret (pe_and (pe_cmpR op_eq (pe_callB call_len_seq (by rfl) m_len (by decide +kernel) (pa_cons (pv 0) pa_nil)) (pe_callB call_len_seq (by rfl) m_len (by decide +kernel) (pa_cons (pv 1) pa_nil)) (nomark _)) (pe_one (pe_callB (cr_all rfl) (by rfl) m_all (by decide +kernel) (pa_cons (pe_lc (own := [("_law_one", 2), ("_law_two", 3)]) (g := (gTup K 2 (gCons (gName 2) (gCons (gName 3) gNil)))) (tt := tYes) (by rfl) sc_law_same.nd (RZ.pi_zipA (by rfl) m_zip (pa_cons (pv 0) (pa_cons (pv 1) pa_nil))) (blkOk_by (own := [("_law_one", 2), ("_law_two", 3)]) (N := n_law_same) (sc := defScope s_law_same) (by decide +kernel)) (fun _ _ _ _ _ => (pg_tup (by rfl) (pgs_cons (pg_name (i := 2) sc_law_same.nd rfl (Or.inl rfl)) (pgs_cons (pg_name (i := 3) sc_law_same.nd rfl (Or.inl rfl)) pgs_nil)))) (fun _ _ _ _ _ => pts_nil) (fun _ _ _ _ _ => (pe_callF h_law_same (hr.mono (by first | decide | omega)) (pa_cons (pv 2) (pa_cons (pv 3) pa_nil))))) pa_nil)))))))))), ?_⟩
      have key : (x = y ∧ flat x = true) ∨ ∃ (a b : Addr) (xs ys : List V), x = .ref a ∧ y = .ref b ∧ ((SqT K H a xs ∧ SqT K H b ys) ∨ (SqL K H a xs ∧ SqL K H b ys)) ∧ xs.length = ys.length ∧ xs.length ≤ 10000 ∧ ∀ (i : Nat) (x y : V), xs[i]? = some x → ys[i]? = some y → spSame K n = spSame K (n - 1 + 1) ∧ EqD K H (n - 1) x y := by
        cases n with
        | zero => exact .inl hd
        | succ m =>
          rcases hd with h | ⟨a, b, xs, ys, h1, h2, h3, h4, h5, h6⟩
          · exact .inl h
          · exact .inr ⟨a, b, xs, ys, h1, h2, h3, h4, h5, fun i x y q1 q2 => ⟨rfl, h6 i x y q1 q2⟩⟩
      have q0 := hq H (Same.refl H)
      rcases key with ⟨rfl, hfl⟩ | ⟨a, b, xs, ys, rfl, rfl, h3, h4, h5, h6⟩
      · cases x with
        | non => exact ⟨_, rfl, rfl, _, rfl, itT rfl ⟨_, rfl, rfl, q0⟩⟩
        | bl c =>
          refine ⟨_, rfl, rfl, _, rfl, itF rfl ?_⟩
          refine ⟨_, rfl, ⟨_, _, _, _, true, rfl, .ty _, .base (.bl c), kit_ty (by decide +kernel), ⟨_, rfl, itT rfl (itT rfl ?_)⟩⟩⟩
          refine ⟨_, rfl, ⟨_, _, _, _, true, rfl, .ty _, .base (.bl c), kit_ty (by decide +kernel), ⟨_, rfl, itT rfl ⟨_, rfl, ⟨_, _, _, _, true, rfl, .ty _, .base (.bl c), kit_ty (by decide +kernel), ⟨_, rfl, itT rfl ⟨_, rfl, _, rfl, rfl, ?_⟩⟩⟩⟩⟩⟩⟩
          rw [decide_eq_true rfl]
          exact q0
        | int c =>
          refine ⟨_, rfl, rfl, _, rfl, itF rfl ?_⟩
          refine ⟨_, rfl, ⟨_, _, _, _, false, rfl, .ty _, .base (.int c), kit_ty (by decide +kernel), ⟨_, rfl, itF rfl ⟨_, rfl, ⟨_, _, _, _, false, rfl, .ty _, .base (.int c), kit_ty (by decide +kernel), ⟨_, rfl, itF rfl ?_⟩⟩⟩⟩⟩⟩
          refine ⟨_, rfl, sl 2, fun t1 ht1 => ⟨_, _, _, _, [.type "int", .type "str"], (true || false), rfl, upd_same, .cons (.ty _) (.cons (.ty _) .nil), (.base (.int c)), kit_is (by decide +kernel) (by decide +kernel), ⟨_, rfl, itT rfl ?_⟩⟩⟩
          refine ⟨_, rfl, sl 2, fun t2 ht2 => ⟨_, _, _, _, [.type "int", .type "str"], (true || false), rfl, upd_same, .cons (.ty _) (.cons (.ty _) .nil), (.base (.int c)), kit_is (by decide +kernel) (by decide +kernel), ⟨_, rfl, itT rfl ?_⟩⟩⟩
          refine ⟨_, rfl, ⟨_, _, _, _, true, rfl, .ty _, .base (.int c), kit_ty (by decide +kernel), ⟨_, rfl, ⟨_, _, _, _, true, rfl, .ty _, .base (.int c), kit_ty (by decide +kernel), ⟨rfl, _, rfl, itT rfl ⟨_, rfl, _, rfl, rfl, ?_⟩⟩⟩⟩⟩⟩
          rw [decide_eq_true rfl]
          exact hq _ ((same_new ht1).trans (same_new ht2))
        | str c =>
          refine ⟨_, rfl, rfl, _, rfl, itF rfl ?_⟩
          refine ⟨_, rfl, ⟨_, _, _, _, false, rfl, .ty _, .base (.str c), kit_ty (by decide +kernel), ⟨_, rfl, itF rfl ⟨_, rfl, ⟨_, _, _, _, false, rfl, .ty _, .base (.str c), kit_ty (by decide +kernel), ⟨_, rfl, itF rfl ?_⟩⟩⟩⟩⟩⟩
          refine ⟨_, rfl, sl 2, fun t1 ht1 => ⟨_, _, _, _, [.type "int", .type "str"], (false || true), rfl, upd_same, .cons (.ty _) (.cons (.ty _) .nil), (.base (.str c)), kit_is (by decide +kernel) (by decide +kernel), ⟨_, rfl, itT rfl ?_⟩⟩⟩
          refine ⟨_, rfl, sl 2, fun t2 ht2 => ⟨_, _, _, _, [.type "int", .type "str"], (false || true), rfl, upd_same, .cons (.ty _) (.cons (.ty _) .nil), (.base (.str c)), kit_is (by decide +kernel) (by decide +kernel), ⟨_, rfl, itT rfl ?_⟩⟩⟩
          refine ⟨_, rfl, ⟨_, _, _, _, false, rfl, .ty _, .base (.str c), kit_ty (by decide +kernel), ⟨_, rfl, ⟨_, _, _, _, false, rfl, .ty _, .base (.str c), kit_ty (by decide +kernel), ⟨rfl, _, rfl, itT rfl ⟨_, rfl, _, rfl, rfl, ?_⟩⟩⟩⟩⟩⟩
          rw [decide_eq_true rfl]
          exact hq _ ((same_new ht1).trans (same_new ht2))
        | _ => cases hfl
      · rcases h3 with ⟨k1, k2⟩ | ⟨k1, k2⟩
        · refine ⟨_, rfl, rfl, _, rfl, itF rfl ?_⟩
          refine ⟨_, rfl, ⟨_, _, _, _, false, rfl, .ty _, tyx_t k2, kit_ty (by decide +kernel), ⟨_, rfl, itF rfl ⟨_, rfl, ⟨_, _, _, _, false, rfl, .ty _, tyx_t k1, kit_ty (by decide +kernel), ⟨_, rfl, itF rfl ?_⟩⟩⟩⟩⟩⟩
          refine ⟨_, rfl, sl 2, fun t1 ht1 => ?_⟩
          have s1 := same_new (o := .tup [.ty "int", .ty "str"]) ht1
          refine ⟨_, _, _, _, [.type "int", .type "str"], (false || false), rfl, upd_same, .cons (.ty _) (.cons (.ty _) .nil), (tyx_t (sqT_same s1 k2)), kit_is (by decide +kernel) (by decide +kernel), ⟨_, rfl, itF rfl ?_⟩⟩
          generalize hH1 : upd H t1 (.tup [.ty "int", .ty "str"]) = H1 at s1
          have j1 := sqT_same s1 k1
          have j2 := sqT_same s1 k2
          refine ⟨_, rfl, ⟨_, _, _, _, true, rfl, .ty _, tyx_t j2, kit_ty (by decide +kernel), ⟨_, rfl, ⟨_, _, _, _, true, rfl, .ty _, tyx_t j1, kit_ty (by decide +kernel), ⟨rfl, _, rfl, itF rfl ?_⟩⟩⟩⟩⟩
          refine ⟨_, rfl, ⟨_, _, _, _, false, rfl, .ty _, tyx_t j2, kit_ty (by decide +kernel), ⟨_, rfl, ⟨_, _, _, _, false, rfl, .ty _, tyx_t j1, kit_ty (by decide +kernel), ⟨rfl, _, rfl, itF rfl ?_⟩⟩⟩⟩⟩
          refine ⟨_, rfl, a, xs, rfl, .inr j1, _, rfl, b, ys, rfl, .inr j2, rfl, _, rfl, itT (by rw [h4]; exact decide_eq_true rfl) ?_⟩
          refine ⟨_, rfl, _, rfl, a, b, xs, ys, rfl, .inr ⟨j1, j2, fun L hL => ?_⟩⟩
          refine lc_it (walk_zipT (n := xs.length) (by omega)) (fun i H' => Same H1 H' ∧ H' L = some (.lst ((List.replicate i true).map V.bl))) ⟨same_new hL, upd_same⟩ (fun i H' _ hp => ⟨sqT_same hp.1 j1, sqT_same hp.1 j2⟩) (fun i v H2 H' hi hp hy => ?_) (fun H' hp => ?_)
          · obtain ⟨T, x, y, rfl, hT, rfl, q1, q2⟩ := hy
            obtain ⟨e1, e2⟩ := h6 i x y q1 q2
            have s3 := same_new (o := .tup [x, y]) hT
            refine ⟨T, _, rfl, .of upd_same, rfl, _, _, rfl, _, _, rfl, rfl, rfl, ?_⟩
            refine ⟨_, rfl, _, rfl, ?_⟩
            rw [e1]
            refine ⟨x, y, rfl, e2.same (s1.trans (hp.1.trans s3)), fun H5 s5 => ⟨_, s5 _ _ (s3 _ _ hp.2), ?_, fun bb o e => ?_, ?_⟩⟩
            · rw [List.length_map, List.length_replicate]
              exact slt' (by omega)
            · rw [upd_ne (ne_of_none e hL)]
              exact s5 _ _ (s3 _ _ (hp.1 _ _ e))
            · rw [upd_same, List.replicate_succ', List.map_append]
              rfl
          · refine ⟨L, _, rfl, .of hp.2, ?_⟩
            rw [all_rep]
            exact hq _ (s1.trans hp.1)
        · refine ⟨_, rfl, rfl, _, rfl, itF rfl ?_⟩
          refine ⟨_, rfl, ⟨_, _, _, _, false, rfl, .ty _, tyx_l k2, kit_ty (by decide +kernel), ⟨_, rfl, itF rfl ⟨_, rfl, ⟨_, _, _, _, false, rfl, .ty _, tyx_l k1, kit_ty (by decide +kernel), ⟨_, rfl, itF rfl ?_⟩⟩⟩⟩⟩⟩
          refine ⟨_, rfl, sl 2, fun t1 ht1 => ?_⟩
          have s1 := same_new (o := .tup [.ty "int", .ty "str"]) ht1
          refine ⟨_, _, _, _, [.type "int", .type "str"], (false || false), rfl, upd_same, .cons (.ty _) (.cons (.ty _) .nil), (tyx_l (sqL_same s1 k2)), kit_is (by decide +kernel) (by decide +kernel), ⟨_, rfl, itF rfl ?_⟩⟩
          generalize hH1 : upd H t1 (.tup [.ty "int", .ty "str"]) = H1 at s1
          have j1 := sqL_same s1 k1
          have j2 := sqL_same s1 k2
          refine ⟨_, rfl, ⟨_, _, _, _, false, rfl, .ty _, tyx_l j2, kit_ty (by decide +kernel), ⟨_, rfl, ⟨_, _, _, _, false, rfl, .ty _, tyx_l j1, kit_ty (by decide +kernel), ⟨rfl, _, rfl, itF rfl ?_⟩⟩⟩⟩⟩
          refine ⟨_, rfl, ⟨_, _, _, _, true, rfl, .ty _, tyx_l j2, kit_ty (by decide +kernel), ⟨_, rfl, ⟨_, _, _, _, true, rfl, .ty _, tyx_l j1, kit_ty (by decide +kernel), ⟨rfl, _, rfl, itF rfl ?_⟩⟩⟩⟩⟩
          refine ⟨_, rfl, a, xs, rfl, .inl j1, _, rfl, b, ys, rfl, .inl j2, rfl, _, rfl, itT (by rw [h4]; exact decide_eq_true rfl) ?_⟩
          refine ⟨_, rfl, _, rfl, a, b, xs, ys, rfl, .inl ⟨j1, j2, fun L hL => ?_⟩⟩
          refine lc_it (walk_zip (n := xs.length) (by omega)) (fun i H' => Same H1 H' ∧ H' L = some (.lst ((List.replicate i true).map V.bl))) ⟨same_new hL, upd_same⟩ (fun i H' _ hp => ⟨sqL_same hp.1 j1, sqL_same hp.1 j2⟩) (fun i v H2 H' hi hp hy => ?_) (fun H' hp => ?_)
          · obtain ⟨T, x, y, rfl, hT, rfl, q1, q2⟩ := hy
            obtain ⟨e1, e2⟩ := h6 i x y q1 q2
            have s3 := same_new (o := .tup [x, y]) hT
            refine ⟨T, _, rfl, .of upd_same, rfl, _, _, rfl, _, _, rfl, rfl, rfl, ?_⟩
            refine ⟨_, rfl, _, rfl, ?_⟩
            rw [e1]
            refine ⟨x, y, rfl, e2.same (s1.trans (hp.1.trans s3)), fun H5 s5 => ⟨_, s5 _ _ (s3 _ _ hp.2), ?_, fun bb o e => ?_, ?_⟩⟩
            · rw [List.length_map, List.length_replicate]
              exact slt' (by omega)
            · rw [upd_ne (ne_of_none e hL)]
              exact s5 _ _ (s3 _ _ (hp.1 _ _ e))
            · rw [upd_same, List.replicate_succ', List.map_append]
              rfl
          · refine ⟨L, _, rfl, .of hp.2, ?_⟩
            rw [all_rep]
            exact hq _ (s1.trans hp.1)
end

/-! ### the law's own fractions -/
def spNumber : Sp := fun vs H Q _ => ∃ (p c : Addr) (ns : List Int) (sz : Int), vs = [.ref p, .int sz] ∧ Feed H p c ns ∧ 0 < sz ∧ sz < 2 ^ 100 ∧ ∀ r H' t u, Nxt p c ns H H' → H' r = some (.tup [.int t, .int u]) → 0 < u → t.natAbs ≤ sz.natAbs → u.natAbs ≤ sz.natAbs → Int.gcd t u = 1 → Q (.ref r) H'
section
variable {P : Program} {w : World} {K : PySem.W.Frag} {mg : Str → Option Value} {base : Heap}
theorem ok_law_number (D : Dn K mg "_law_number" s_law_number []) (h_law_take : FOk P w K mg base 1 "_law_take" ["_law_feed_here", "_law_many"] spTakeA) (h_law_low : FOk P w K mg base 2 "_law_low" ["_law_top", "_law_under"] spLow) : FOk P w K mg base 3 "_law_number" ["_law_feed_here", "_law_size"] spNumber := by
  refine D.ok sc_law_number (fun _ _ _ _ _ _ us hl => match us, hl with | [_, _], _ => rfl) (fun vs H Q E h => ?_) (fun cdv A outer s H vs Q E hr h => ?_)
  · obtain ⟨_, _, _, _, rfl, _⟩ := h
    rfl
  · obtain ⟨p, c, ns, sz, rfl, hF, z0, z1, hQ⟩ := h
    refine ⟨_, (pss_cons 
    (ps_set (i := 2) sc_law_number.nd rfl (Or.inl rfl) (pe_op op_sub (pe_callF h_law_take (hr.mono (by first | decide | omega)) (pa_cons (pv 0) (pa_cons (pe_op op_add (pe_op op_mulW pe_int (pv 1)) pe_int) pa_nil))) (pv 1))) (pss_cons 
    (ps_set (i := 3) sc_law_number.nd rfl (Or.inl rfl) (pe_ifExp (pt_cmpR op_eq (pe_callF h_law_take (hr.mono (by first | decide | omega)) (pa_cons (pv 0) (pa_cons pe_int pa_nil))) pe_int (nomark _)) pe_int (pe_op op_add pe_int (pe_callF h_law_take (hr.mono (by first | decide | omega)) (pa_cons (pv 0) (pa_cons (pv 1) pa_nil)))))) (pss_one 
    (ps_ret (pe_callF h_law_low (hr.mono (by first | decide | omega)) (pa_cons (pv 2) (pa_cons (pv 3) pa_nil))))))), ?_⟩
    have bsz : Big sz := big_of (by omega)
    refine ⟨_, rfl, _, rfl, _, _, rfl, rfl, (big_of (by decide)).mulW bsz, _, _, rfl, rfl, p, c, ns, _, rfl, hF, by omega, big_of (by omega), fun r1 H1 a1 b1 n1 => ?_⟩
    refine ⟨_, rfl, _, _, rfl, rfl, _, rfl, p, c, ns, 3, rfl, n1.f, by decide, big_of (by decide), fun r2 H2 a2 b2 n2 => ?_⟩
    have fin : ∀ (u : Int) (H3 : Hp), 0 < u → u ≤ sz → Nxt p c ns H H3 → ∀ (r : Addr) (H4 : Hp), Same H3 H4 → H4 r = some (.tup [.int (fracT (r1 - sz) u), .int (fracU (r1 - sz) u)]) → Q (.ref r) H4 := fun u H3 hu hs n r H4 sm e => by
      have l := frac_le (t := r1 - sz) (u := u) (by omega)
      have l1 := l.1
      have l2 := l.2
      exact hQ r H4 _ _ (n.same sm) e (frac_pos (by omega)) (by omega) (by omega) (frac_gcd (by omega))
    refine ⟨rfl, _, rfl, it2 (fun e => ?_) (fun e => ?_)⟩
    · exact ⟨_, rfl, _, rfl, _, _, rfl, big_of (by omega), big_of (by decide), by decide, fun r H4 _ sm e => fin 1 _ (by decide) (by omega) (n1.trans n2) r H4 sm e⟩
    · refine ⟨_, rfl, _, rfl, p, c, ns, _, rfl, n2.f, z0, bsz, fun r3 H3 a3 b3 n3 => ?_⟩
      exact ⟨_, _, rfl, rfl, _, rfl, _, rfl, _, _, rfl, big_of (by omega), big_of (by omega), by omega, fun r H4 _ sm e => fin (1 + r3) _ (by omega) (by omega) ((n1.trans n2).trans n3) r H4 sm e⟩
end

section
variable {P : Program} {w : World} {K : PySem.W.Frag} {mg : Str → Option Value} {base : Heap}
theorem ok_law_plus (D : Dn K mg "_law_plus" s_law_plus []) (h_law_low : FOk P w K mg base 2 "_law_low" ["_law_top", "_law_under"] spLow) : FOk P w K mg base 3 "_law_plus" ["_law_one", "_law_two"] (spAdd K) := by
  refine D.ok sc_law_plus (fun _ _ _ _ _ _ us hl => match us, hl with | [_, _], _ => rfl) (fun vs H Q E h => ?_) (fun cdv A outer s H vs Q E hr h => ?_)
  · obtain ⟨_, _, _, _, _, _, rfl, _⟩ := h
    rfl
  · obtain ⟨p, q, a, b, c, d, rfl, hp, hq, ma, mb, mc, md, hb, hd, hQ⟩ := h
    refine ⟨_, (pss_one 
    (ps_ret (pe_callF h_law_low (hr.mono (by first | decide | omega)) (pa_cons (pe_op op_add (pe_op op_mulW (pe_ix ix_tup (pv 0) pe_int (fun _ _ => rfl)) (pe_ix ix_tup (pv 1) pe_int (fun _ _ => rfl))) (pe_op op_mulW (pe_ix ix_tup (pv 1) pe_int (fun _ _ => rfl)) (pe_ix ix_tup (pv 0) pe_int (fun _ _ => rfl)))) (pa_cons (pe_op op_mulW (pe_ix ix_tup (pv 0) pe_int (fun _ _ => rfl)) (pe_ix ix_tup (pv 1) pe_int (fun _ _ => rfl))) pa_nil))))), ?_⟩
    exact ⟨_, rfl, p, _, 0, .int a, rfl, rfl, hp, rfl, _, rfl, q, _, 1, .int d, rfl, rfl, hq, rfl, _, _, rfl, rfl, ma.big.mulW md.big, _, rfl, q, _, 0, .int c, rfl, rfl, hq, rfl, _, rfl, p, _, 1, .int b, rfl, rfl, hp, rfl, _, _, rfl, rfl, mc.big.mulW mb.big, _, _, rfl, rfl,
      _, rfl, p, _, 1, .int b, rfl, rfl, hp, rfl, _, rfl, q, _, 1, .int d, rfl, rfl, hq, rfl, _, _, rfl, rfl, mb.big.mulW md.big, _, _, rfl, mid_cross ma md mc mb, mid_mul mb md, Int.mul_ne_zero hb hd, fun r Hr _ sm e => hQ r Hr sm e⟩
end

section
variable {P : Program} {w : World} {K : PySem.W.Frag} {mg : Str → Option Value} {base : Heap}
theorem ok_law_by (D : Dn K mg "_law_by" s_law_by []) (h_law_low : FOk P w K mg base 2 "_law_low" ["_law_top", "_law_under"] spLow) : FOk P w K mg base 3 "_law_by" ["_law_one", "_law_two"] (spMul K) := by
  refine D.ok sc_law_by (fun _ _ _ _ _ _ us hl => match us, hl with | [_, _], _ => rfl) (fun vs H Q E h => ?_) (fun cdv A outer s H vs Q E hr h => ?_)
  · obtain ⟨_, _, _, _, _, _, rfl, _⟩ := h
    rfl
  · obtain ⟨p, q, a, b, c, d, rfl, hp, hq, ma, mb, mc, md, hb, hd, hQ⟩ := h
    refine ⟨_, (pss_one 
    (ps_ret (pe_callF h_law_low (hr.mono (by first | decide | omega)) (pa_cons (pe_op op_mulW (pe_ix ix_tup (pv 0) pe_int (fun _ _ => rfl)) (pe_ix ix_tup (pv 1) pe_int (fun _ _ => rfl))) (pa_cons (pe_op op_mulW (pe_ix ix_tup (pv 0) pe_int (fun _ _ => rfl)) (pe_ix ix_tup (pv 1) pe_int (fun _ _ => rfl))) pa_nil))))), ?_⟩
    exact ⟨_, rfl, p, _, 0, .int a, rfl, rfl, hp, rfl, _, rfl, q, _, 0, .int c, rfl, rfl, hq, rfl, _, _, rfl, rfl, ma.big.mulW mc.big, _, rfl, p, _, 1, .int b, rfl, rfl, hp, rfl, _, rfl, q, _, 1, .int d, rfl, rfl, hq, rfl, _, _, rfl, rfl, mb.big.mulW md.big, _, _, rfl, mid_mul ma mc, mid_mul mb md, Int.mul_ne_zero hb hd, fun r Hr _ sm e => hQ r Hr sm e⟩
end

theorem Nxt.tk {K : PySem.W.Frag} {H H' : Hp} {p c : Addr} {ns : List Int} (n : Nxt p c ns H H') (hf : Feed H p c ns) : TK2 K H H' := by
  obtain ⟨xs, e⟩ := hf.lst
  exact TK2.but e (fun _ z => by cases z) (fun _ _ z => by cases z) n.but
theorem Feed.but {H H' : Hp} {p c d : Addr} {ns : List Int} (h : Feed H p c ns) (hp : p ≠ d) (hc : c ≠ d) (b : ∀ x o, x ≠ d → H x = some o → H' x = some o) : Feed H' p c ns := by
  obtain ⟨pos, big, mark, h1, h2, h3⟩ := h
  exact ⟨pos, big, mark, b _ _ hp h1, b _ _ hc h2, h3⟩
theorem TabAt.nxt {K : PySem.W.Frag} {H H' : Hp} {p c d : Addr} {ns : List Int} {P : Tab} (h : TabAt K H d P) (n : Nxt p c ns H H') (hf : Feed H p c ns) (hd : d ≠ p) : TabAt K H' d P := h.keep (fun _ e => n.at hd e) (n.tk hf).1
theorem TabAt.far {K : PySem.W.Frag} {H : Hp} {p c d : Addr} {ns : List Int} {P : Tab} (h : TabAt K H d P) (hf : Feed H p c ns) : d ≠ p := by
  obtain ⟨l, h, _⟩ := h
  obtain ⟨xs, e⟩ := hf.lst
  exact ne_of h e fun z => by cases z
/-! ### the law's tables: a term put in, tables drawn -/
def spPut (K : PySem.W.Frag) : Sp := fun vs H Q _ => ∃ (d b v : Addr) (P : Tab) (k : Mono) (q : Rat), vs = [.ref d, .ref b, .ref v] ∧ TabAt K H d P ∧ H b = some (.tup (k.map V.int)) ∧ Qt K H v q ∧ MidQ (gt P k) ∧ MidQ q ∧ P.length ≤ 10000 ∧
  ∀ H', (∀ x o, x ≠ d → H x = some o → H' x = some o) → TabAt K H' d (putz P k (gt P k + q)) → Q .non H'
section
variable {P : Program} {w : World} {K : PySem.W.Frag} {mg : Str → Option Value} {base : Heap}
theorem ok_law_put_term (D : Dn K mg "_law_put_term" s_law_put_term []) (h_law_plus : FOk P w K mg base 3 "_law_plus" ["_law_one", "_law_two"] (spOpQ K (· + ·))) : FOk P w K mg base 4 "_law_put_term" ["_law_table", "_law_key", "_law_value_here"] (spPut K) := by
  refine D.ok sc_law_put_term (fun _ _ _ _ _ _ us hl => match us, hl with | [_, _, _], _ => rfl) (fun vs H Q E h => ?_) (fun cdv A outer s H vs Q E hr h => ?_)
  · obtain ⟨_, _, _, _, _, _, rfl, _⟩ := h
    rfl
  · obtain ⟨d, b, v, P0, k, q, rfl, ht, hb, hv, m1, m2, hz, hQ⟩ := h
    refine ⟨_, (pss_cons 
    (ps_set (i := 3) sc_law_put_term.nd rfl (Or.inl rfl) (pe_callF h_law_plus (hr.mono (by first | decide | omega)) (pa_cons (pe_dget2 (u1 hr) (pv 0) (pv 1) (pe_tup (pa_cons pe_int (pa_cons pe_int pa_nil))) ⟨rfl, rfl, rfl, rfl⟩) (pa_cons (pv 2) pa_nil)))) (pss_one 
    (ps_if (pt_cmpR op_eq (pe_ix ix_tup (pv 3) pe_int (fun _ _ => rfl)) pe_int (nomark _)) (pss_one 
      (ps_expr (pe_bm PySem.F.plainAttrs_dict PySem.F.slot_dict_pop PySem.F.type_dict_pop (DX.mt_popT (u1 hr)) (pv 0) (pa_cons (pv 1) (pa_cons pe_non pa_nil))))) (pss_one 
      (ps_asg (pv 3) (pg_sub (pv 0) (pv 1) (set_dict (u1 hr)))))))), ?_⟩
    obtain ⟨l, hd, en⟩ := ht
    refine ⟨_, rfl, d, rfl, .inr ⟨_, .inl hd⟩, _, rfl, sl 2, fun z0 hz0 => ?_⟩
    have s0 : Same H (upd H z0 (.tup [.int 0, .int 1])) := same_new hz0
    generalize hH0 : upd H z0 (.tup [.int 0, .int 1]) = H0 at *
    have ez : H0 z0 = some (.tup [.int 0, .int 1]) := by
      rw [← hH0]
      exact upd_same
    have hd0 := s0 _ _ hd
    have hb0 := s0 _ _ hb
    have en0 := en.keep (TK.same s0)
    obtain ⟨p, ep, hp⟩ : ∃ p, (valV (l.map ent) (kI k)).getD (.ref z0) = .ref p ∧ Qt K H0 p (gt P0 k) := by
      obtain ⟨g1, g2⟩ := en0.get k
      by_cases hk : k ∈ keysT P0
      · obtain ⟨p, e, hp⟩ := g1 hk
        exact ⟨p, by rw [e]; rfl, hp⟩
      · refine ⟨z0, by rw [g2 hk]; rfl, ?_⟩
        rw [gt_none hk]
        exact Qt.zero (.inl (.inl ez))
    refine ⟨_, .t hd0 (by rw [kI_V]; exact hb0), ?_⟩
    rw [ep]
    refine ⟨_, rfl, p, v, gt P0 k, q, rfl, hp, hv.keep (TK.same s0), m1, m2, fun r H1 s1 e1 => ?_⟩
    have hd1 := s1 _ _ hd0
    have hb1 := s1 _ _ hb0
    have en1 := en0.keep (TK.same s1)
    have tk : ∀ u, TK K H1 (upd H1 d u) := fun u => TK.upd hd1 (fun _ z => by cases z) (fun _ _ z => by cases z)
    have bt : ∀ u x o, x ≠ d → H x = some o → upd H1 d u x = some o := fun u x o hx e => by
      rw [upd_ne hx]
      exact s1 _ _ (s0 _ _ e)
    refine ⟨_, rfl, r, _, 0, .int (gt P0 k + q).num, rfl, rfl, .inl (.inl e1), rfl, rfl, _, rfl, itD (fun c => ?_) (fun c => ?_)⟩
    · have c : gt P0 k + q = 0 := Rat.num_eq_zero.mp (V.int.inj c)
      have hp0 : putz P0 k (gt P0 k + q) = delT P0 k := by
        unfold putz
        rw [if_pos c]
      rw [hp0] at hQ
      refine ⟨_, rfl, .inr (.inr (.inl ⟨rfl, .inr ⟨_, hd1⟩⟩)), _, rfl, d, _, kI k, b, .non, rfl, rfl, hd1, by rw [kI_V]; exact hb1, fun v hv => ?_, fun hv => ?_⟩
      · refine hQ _ (bt _) ?_
        rw [delE_ent]
        exact ⟨_, upd_same, (en1.delq k).keep (tk _)⟩
      · have hk : k ∉ keysT P0 := fun hk => by
          obtain ⟨a, e, _⟩ := (en1.get k).1 hk
          rw [hv] at e
          cases e
        refine hQ _ (fun x o _ e => s1 _ _ (s0 _ _ e)) ?_
        rw [delT_none hk]
        exact ⟨l, hd1, en1⟩
    · have c : gt P0 k + q ≠ 0 := fun z => c (congrArg V.int (by rw [z]; rfl))
      have hp0 : putz P0 k (gt P0 k + q) = put P0 k (gt P0 k + q) := by
        unfold putz
        rw [if_neg c]
      rw [hp0] at hQ
      refine ⟨_, rfl, _, rfl, _, rfl, d, _, rfl, .t hd1 (by rw [kI_V]; exact hb1) (by rw [List.length_map, en.length]; exact slt' (by omega)), hQ _ (bt _) ?_⟩
      rw [putE_ent]
      exact ⟨_, upd_same, (en1.putq k (Qt.of e1)).keep (tk _)⟩
end
/-- a drawn table: n unknowns, degrees up to dg, up to sz terms -/
structure Drawn (n : Nat) (dg sz : Int) (P : Tab) : Prop where
  nrm : Nrm n P
  len : (P.length : Int) ≤ sz
  num : ∀ k, Sz 60 (360 * sz.toNat) (gt P k)
  deg : ∀ k ∈ keysT P, k.sum ≤ dg
def spDrawn (K : PySem.W.Frag) : Sp := fun vs H Q _ => ∃ (p c : Addr) (ns : List Int) (n : Nat) (dg sz : Int), vs = [.ref p, .int n, .int dg, .int sz] ∧ Feed H p c ns ∧ n ≤ 20 ∧ 0 ≤ dg ∧ dg ≤ 20 ∧ 0 ≤ sz ∧ sz ≤ 20 ∧ ∀ d H' P, H d = none → Nxt p c ns H H' → TabAt K H' d P → Drawn n dg sz P → Q (.ref d) H'
section
variable {P : Program} {w : World} {K : PySem.W.Frag} {mg : Str → Option Value} {base : Heap}
theorem ok_law_drawn (D : Dn K mg "_law_drawn" s_law_drawn []) (m_range : mg "range" = none) (m_tuple : mg "tuple" = none) (h_law_take : FOk P w K mg base 1 "_law_take" ["_law_feed_here", "_law_many"] spTakeA) (h_law_number : FOk P w K mg base 3 "_law_number" ["_law_feed_here", "_law_size"] spNumber) (h_law_put_term : FOk P w K mg base 4 "_law_put_term" ["_law_table", "_law_key", "_law_value_here"] (spPut K)) :
    FOk P w K mg base 5 "_law_drawn" ["_law_feed_here", "_law_many", "_law_degree", "_law_size"] (spDrawn K) := by
  refine D.ok sc_law_drawn (fun _ _ _ _ _ _ us hl => match us, hl with | [_, _, _, _], _ => rfl) (fun vs H Q E h => ?_) (fun cdv A outer s H vs Q E hr h => ?_)
  · obtain ⟨_, _, _, _, _, _, rfl, _⟩ := h
    rfl
  · obtain ⟨p, c, ns, n, dg, sz, rfl, hF, hn, d0, d1, z0, z1, hQ⟩ := h
    refine ⟨_, (pss_cons 
    (ps_set (i := 4) sc_law_drawn.nd rfl (Or.inl rfl) pe_dnewT) (pss_cons 
    (ps_for PassesOwn.never rfl (pi_range1 (by rfl) m_range (pa_cons (pe_callF h_law_take (hr.mono (by first | decide | omega)) (pa_cons (pv 0) (pa_cons (pe_op op_add (pv 3) pe_int) pa_nil))) pa_nil)) (pg_name (i := 5) sc_law_drawn.nd rfl (Or.inl rfl)) (pss_cons 
      (ps_set (i := 6) sc_law_drawn.nd rfl (Or.inl rfl) (pe_op op_rep (pe_lst (pa_cons pe_int pa_nil)) (pv 1))) (pss_cut 
      (ps_for PassesOwn.never rfl (pi_range1 (by rfl) m_range (pa_cons (pe_callF h_law_take (hr.mono (by first | decide | omega)) (pa_cons (pv 0) (pa_cons (pe_op op_add (pv 2) pe_int) pa_nil))) pa_nil)) (pg_name (i := 7) sc_law_drawn.nd rfl (Or.inl rfl)) (pss_one 
        (ps_if (pt_cmpR op_gt (pv 1) pe_int (nomark _)) (pss_cons 
          (ps_set (i := 8) sc_law_drawn.nd rfl (Or.inl rfl) (pe_callF h_law_take (hr.mono (by first | decide | omega)) (pa_cons (pv 0) (pa_cons (pv 1) pa_nil)))) (pss_one 
          (ps_asg (pe_op op_add (pe_ix ix_list (pv 6) (pv 8) (fun _ _ => rfl)) pe_int) (pg_sub (pv 6) (pv 8) set_list)))) pss_nil))) (pss_one 
      (ps_expr (pe_callF h_law_put_term (hr.mono (by first | decide | omega)) (pa_cons (pv 4) (pa_cons (pe_callTy call_tuple_of (by rfl) m_tuple (by decide +kernel) (pa_cons (pv 6) pa_nil)) (pa_cons (pe_callF h_law_number (hr.mono (by first | decide | omega)) (pa_cons (pv 0) (pa_cons pe_int pa_nil))) pa_nil))))))))) (pss_one 
    (ps_ret (pv 4))))), fun d hd => ?_⟩
    have s0 := same_new (o := .dT []) hd
    have hF0 := hF.keep s0
    refine ⟨_, rfl, _, rfl, _, _, rfl, rfl, p, c, ns, _, rfl, hF0, by omega, big_of (by omega), fun r H1 a1 b1 n1 => ?_⟩
    obtain ⟨R, rfl⟩ : ∃ k : Nat, r = k := ⟨r.toNat, by omega⟩
    refine ⟨R, rfl, by omega, by omega, for_range (fun i σ H' => ∃ (x5 x6 x7 x8 : Option V) (Pt : Tab), σ = [some (.ref p), some (.int n), some (.int dg), some (.int sz), some (.ref d), x5, x6, x7, x8] ∧ Nxt p c ns H H' ∧ TabAt K H' d Pt ∧ Nrm n Pt ∧ Pt.length ≤ i ∧ (∀ k, Sz 60 (360 * i) (gt Pt k)) ∧ ∀ k ∈ keysT Pt, k.sum ≤ dg)
      ⟨none, none, none, none, [], rfl, ⟨n1.f, fun b o hb e => n1.but b o hb (s0 _ _ e)⟩, ⟨[], n1.at (hF.far hd) upd_same, .nil⟩, Nrm.nil n, Nat.le_refl _, fun k => Sz.zero _ _, fun k hk => by cases hk⟩ (fun i σ H2 hi hp => ?_) (fun σ H2 hp => ?_)⟩
    · obtain ⟨x5, x6, x7, x8, Pt, rfl, n2, ht, hnm, hlen, hsz, hdg⟩ := hp
      refine ⟨sl 1, fun l0 hl0 => ⟨_, rfl, l0, n, _, rfl, rfl, upd_same, by omega, by omega, CT.sl _ (by show 1 * (n : Int).toNat ≤ _; omega), fun m hm => ?_⟩⟩
      rw [show ((n : Int).toNat) = n from rfl, rep_int]
      generalize hH3 : upd (upd H2 l0 (.lst [V.int 0])) m (.lst ((List.replicate n (0 : Int)).map V.int)) = H3
      have s3 : Same H2 H3 := by
        rw [← hH3]
        exact (same_new hl0).trans (same_new hm)
      have hm3 : H3 m = some (.lst ((List.replicate n (0 : Int)).map V.int)) := by
        rw [← hH3]
        exact upd_same
      have hm2 : H2 m = none := by
        rcases e : H2 m with _ | o
        · rfl
        · rw [(same_new hl0) _ _ e] at hm
          cases hm
      have n3 := n2.same s3
      have ht3 := ht.same s3
      have mp : m ≠ p := n2.f.far hm2
      clear hH3 hm hl0 s3
      refine ⟨fun σ H' => ∃ (es : List Int) (y7 y8 : Option V), σ = [some (.ref p), some (.int n), some (.int dg), some (.int sz), some (.ref d), some (.int (0 + (i : Int))), some (.ref m), y7, y8] ∧ H' m = some (.lst (es.map V.int)) ∧ es.length = n ∧ (∀ e ∈ es, 0 ≤ e) ∧ es.sum ≤ dg ∧ Nxt p c ns H H' ∧ TabAt K H' d Pt, ?_, fun σ H4 hw => ?_⟩
      · refine ⟨_, rfl, _, rfl, _, _, rfl, rfl, p, c, ns, _, rfl, n3.f, by omega, big_of (by omega), fun r4 H4 a4 b4 n4 => ?_⟩
        obtain ⟨R4, rfl⟩ : ∃ k : Nat, r4 = k := ⟨r4.toNat, by omega⟩
        have ht4 := ht3.nxt n4 n3.f (ht3.far n3.f)
        refine ⟨_, rfl, by omega, by omega, for_range (fun j σ H' => ∃ (es : List Int) (y7 y8 : Option V), σ = [some (.ref p), some (.int n), some (.int dg), some (.int sz), some (.ref d), some (.int (0 + (i : Int))), some (.ref m), y7, y8] ∧ H' m = some (.lst (es.map V.int)) ∧ es.length = n ∧ (∀ e ∈ es, 0 ≤ e) ∧ es.sum ≤ j ∧ Nxt p c ns H H' ∧ TabAt K H' d Pt)
          ⟨List.replicate n 0, x7, x8, rfl, n4.at mp hm3, List.length_replicate, (fun e he => by rw [List.eq_of_mem_replicate he]; decide), by rw [sum_rep0]; decide, n3.trans n4, ht4⟩ (fun j σ H5 hj hp => ?_) (fun σ H5 hp => ?_)⟩
        · obtain ⟨es, y7, y8, rfl, e5, l5, nn5, s5, n5, t5⟩ := hp
          refine ⟨_, rfl, _, _, rfl, rfl, _, rfl, itD (fun c0 => ?_) (fun c0 => ?_)⟩
          · refine ⟨_, rfl, _, rfl, p, c, ns, _, rfl, n5.f, c0, big_of (by omega), fun r6 H6 a6 b6 n6 => ?_⟩
            obtain ⟨R6, rfl⟩ : ∃ k : Nat, r6 = k := ⟨r6.toNat, by omega⟩
            have hl6 : R6 < es.length := by omega
            have e6 := n6.at mp e5
            have q6 : es[R6]? = some es[R6] := List.getElem?_eq_getElem hl6
            refine ⟨_, rfl, _, rfl, m, _, R6, .int es[R6], rfl, rfl, .of e6, atI_nat (by rw [List.getElem?_map, q6]; rfl), _, _, rfl, rfl, _, rfl, _, rfl, m, _, R6, R6, rfl, rfl, e6, ixN_nat (by rw [List.length_map]; exact hl6), ?_⟩
            have g6 : ∀ b o, H2 b = some o → b ≠ m := fun b o e => ne_of_none e hm2
            have f6 := n2.f.offs hm2
            have n56 := n5.trans n6
            have t6 := t5.nxt n6 n5.f (t5.far n5.f)
            refine ⟨es.set R6 (es[R6] + 1), _, _, rfl, ?_, by rw [List.length_set]; exact l5, nn_set q6 nn5, by rw [sum_set q6]; omega, ⟨n56.f.off f6.1 f6.2, fun b o hb e => ?_⟩, t6.keep (fun o e => ?_) (TK.upd e6 (fun _ z => by cases z) (fun _ _ z => by cases z))⟩
            · rw [upd_same, List.map_set]
            · rw [upd_ne (g6 b o (n2.but b o hb e))]
              exact n56.but b o hb e
            · obtain ⟨l', hl', _⟩ := ht
              rw [upd_ne (g6 d _ hl')]
              exact e
          · exact ⟨es, _, _, rfl, e5, l5, nn5, by omega, n5, t5⟩
        · obtain ⟨es, y7, y8, rfl, e5, l5, nn5, s5, n5, t5⟩ := hp
          exact ⟨es, y7, y8, rfl, e5, l5, nn5, by omega, n5, t5⟩
      · obtain ⟨es, y7, y8, rfl, e4, l4, nn4, s4, n4, t4⟩ := hw
        refine ⟨_, rfl, _, rfl, m, _, rfl, .inl ⟨.of e4, fun q hq => ?_⟩⟩
        have s5 := same_new (o := .tup (es.map V.int)) hq
        refine ⟨_, rfl, p, c, ns, 6, rfl, n4.f.keep s5, by decide, by decide, fun v H6 t u n6 e6 u0 bt bu hg => ?_⟩
        have t6 := (t4.same s5).nxt n6 (n4.f.keep s5) ((t4.same s5).far (n4.f.keep s5))
        have q6 : H6 q = some (.tup (es.map V.int)) := n6.at ((n4.f.keep s5).tup_ne upd_same) upd_same
        have hqt : Qt K H6 v (Rat.divInt t u) := by
          obtain ⟨h1, h2⟩ := rat_of u0 hg
          unfold Qt
          rw [← h1, ← h2]
          exact .inl (.inl e6)
        have sq : Sz 60 360 (Rat.divInt t u) := sz_small u0 (by simpa using bt) (by simpa using bu)
        refine ⟨d, q, v, Pt, es, _, rfl, t6, q6, hqt, MidQ.of (OkS.small (by decide) (by decide) (by omega)) (hsz es), MidQ.of (OkS.small (by decide) (by decide) (by decide)) sq, by omega, fun H7 b7 t7 => ?_⟩
        · have f0 := hF.offs hd
          have n46 := (n4.same s5).trans n6
          refine ⟨_, _, _, _, _, rfl, ⟨n6.f.but f0.1 f0.2 b7, fun b o hb e => b7 b o (ne_of_none e hd) (n46.but b o hb e)⟩, t7, hnm.putz ⟨l4, nn4⟩ _, Nat.le_trans (len_putz _ _ _) (by omega), fun k => ?_, fun k hk => ?_⟩
          · rw [gt_putz]
            split
            · exact ((hsz es).add sq).mono (by omega)
            · exact (hsz k).mono (by omega)
          · rcases keys_putz hk with rfl | hk
            · exact s4
            · exact hdg k hk
    · obtain ⟨x5, x6, x7, x8, Pt, rfl, n2, ht, hnm, hlen, hsz, hdg⟩ := hp
      exact ⟨_, rfl, hQ d H2 Pt hd n2 ht ⟨hnm, by omega, fun k => (hsz k).mono (by omega), hdg⟩⟩
end

section
variable {P : Program} {w : World} {K : PySem.W.Frag} {mg : Str → Option Value} {base : Heap}
theorem ok_greatest_common (D : Dn K mg "greatest_common" s_greatest_common []) (m_abs : mg "abs" = none) : FOk P w K mg base 1 "greatest_common" ["one", "other"] spGcd := by
  refine D.ok sc_greatest_common (fun _ _ _ _ _ _ us hl => match us, hl with | [_, _], _ => rfl) (fun vs H Q E h => ?_) (fun cdv A outer s H vs Q E hr h => ?_)
  · obtain ⟨a, b, rfl, _⟩ := h
    rfl
  · obtain ⟨a, b, rfl, ha, hb, hq⟩ := h
    refine ⟨_, (pss_cons 
    (ps_par (i := 0) (j := 1) (by rfl) sc_greatest_common.nd rfl rfl (by decide) rfl rfl (pa_cons (pe_callB call_abs (by rfl) m_abs (by decide +kernel) (pa_cons (pv 0) pa_nil)) (pa_cons (pe_callB call_abs (by rfl) m_abs (by decide +kernel) (pa_cons (pv 1) pa_nil)) pa_nil)) (by rfl)) (pss_cons 
    (ps_while PassesOwn.never (pt_cmpR op_ne (pv 1) pe_int (nomark _)) (pss_one 
      (ps_par (i := 0) (j := 1) (by rfl) sc_greatest_common.nd rfl rfl (by decide) rfl rfl (pa_cons (pv 1) (pa_cons (pe_op op_sub (pv 0) (pe_op op_mulW (pe_op op_fdivW (pv 0) (pv 1)) (pv 1))) pa_nil)) (by rfl)))) (pss_one 
    (ps_ret (pv 0))))), ?_⟩
    refine ⟨_, rfl, _, rfl, _, rfl, _, rfl, _, _, rfl, ?_⟩
    refine while_by (fun σ H1 => ∃ x y : Int, σ = [some (.int x), some (.int y)] ∧ 0 ≤ x ∧ 0 ≤ y ∧ Big x ∧ Big y ∧ Int.gcd x y = Int.gcd a b ∧ H1 = H) (fun σ _ => match σ with | [_, some (.int y)] => y.toNat | _ => 0)
      ⟨_, _, rfl, by split <;> omega, by split <;> omega, ha.abs, hb.abs, gcd_abs a b, rfl⟩ (fun σ H1 hp => ?_) (fun σ H Q Q' hq ⟨v, h1, h2, k, h3, h4⟩ => ⟨v, h1, h2, k, h3, hq _ _ h4⟩)
    obtain ⟨x, y, rfl, hx, hy, hx2, hy2, hg, rfl⟩ := hp
    refine ⟨_, rfl, rfl, _, rfl, ?_⟩
    by_cases h0 : y = 0
    · subst h0
      refine iteNS rfl ⟨_, rfl, ?_⟩
      have e := gcd_end x hx
      rw [hg] at e
      rw [← e]
      exact hq
    · have h1 : decide (V.int y = V.int 0) = false := decide_eq_false fun z => h0 (V.int.inj z)
      rw [h1]
      have hq0 : 0 ≤ x / y := Int.ediv_nonneg hx hy
      have hqx : x / y ≤ x := Int.ediv_le_self _ hx
      have em : x - x / y * y = x % y := fdiv_rest
      have l1 : x % y < y := Int.emod_lt_of_pos x (by omega)
      have l0 : 0 ≤ x % y := Int.emod_nonneg x h0
      refine iteT ⟨_, rfl, _, rfl, _, rfl, _, rfl, _, _, rfl, rfl, hy2.divW (by omega), _, rfl, _, _, rfl, rfl, (hx2.le (by omega)).mulW hy2, _, _, rfl, rfl, _, _, rfl, ⟨y, x - x / y * y, rfl, hy, by omega, hy2, hy2.le (by omega), ?_, rfl⟩, ?_⟩
      · rw [em, gcd_step x y, hg]
      · show (x - x / y * y).toNat < y.toNat
        omega
end

def spIsRatio (K : PySem.W.Frag) : Sp := fun vs H Q _ => ∃ (p : Addr) (a b : Int), vs = [.ref p] ∧ SqT K H p [.int a, .int b] ∧ Big a ∧ Big b ∧ Q (.bl (decide (0 < b) && decide (Int.gcd a b = 1))) H
section
variable {P : Program} {w : World} {K : PySem.W.Frag} {mg : Str → Option Value} {base : Heap}
theorem ok_is_ratio (D : Dn K mg "is_ratio" s_is_ratio []) (h_greatest_common : FOk P w K mg base 1 "greatest_common" ["one", "other"] spGcd) : FOk P w K mg base 2 "is_ratio" ["pair"] (spIsRatio K) := by
  refine D.ok sc_is_ratio (fun _ _ _ _ _ _ us hl => match us, hl with | [_], _ => rfl) (fun vs H Q E h => ?_) (fun cdv A outer s H vs Q E hr h => ?_)
  · obtain ⟨_, _, _, rfl, _⟩ := h
    rfl
  · obtain ⟨p, a, b, rfl, hs, ha, hb, hq⟩ := h
    refine ⟨_, (pss_one 
    (ps_ret (pe_and (pe_cmpR op_gt (pe_ix ix_tup (pv 0) pe_int (fun _ _ => rfl)) pe_int (nomark _)) (pe_one (pe_cmpR op_eq (pe_callF h_greatest_common (hr.mono (by first | decide | omega)) (pa_cons (pe_ix ix_tup (pv 0) pe_int (fun _ _ => rfl)) (pa_cons (pe_ix ix_tup (pv 0) pe_int (fun _ _ => rfl)) pa_nil))) pe_int (nomark _)))))), ?_⟩
    refine ⟨_, rfl, p, _, 1, .int b, rfl, rfl, hs, rfl, _, _, rfl, rfl, _, rfl, it2 (fun e => ?_) (fun e => ?_)⟩
    · refine ⟨_, rfl, p, _, 0, .int a, rfl, rfl, hs, rfl, _, rfl, p, _, 1, .int b, rfl, rfl, hs, rfl, a, b, rfl, ha, hb, rfl, ?_⟩
      rw [e] at hq
      have e2 : decide (V.int (Int.gcd a b : Int) = V.int 1) = decide (Int.gcd a b = 1) := by
        rw [decide_eq_decide]
        exact ⟨fun z => by have := V.int.inj z; omega, fun z => by rw [z]; rfl⟩
      rw [e2]
      exact hq
    · rw [e] at hq
      exact hq
end

/-! ### keys, order, a polynomial made -/
def spIsKey : Sp := fun vs H Q _ => ∃ (p : Addr) (ks : List Int) (n : Int), vs = [.ref p, .int n] ∧ H p = some (.tup (ks.map V.int)) ∧ ks.length ≤ 1000 ∧ ∀ H', Same H H' → Q (.bl (decide ((ks.length : Int) = n) && ks.all fun e => decide (0 ≤ e))) H'
/-- Poly(n, rows): Ge: InvalidTerm with the first index; else the two fields -/
def spPolyInit (K : PySem.W.Frag) : Sp := fun vs H Q E => ∃ (a dx l : Addr) (n : Int) (as : List Addr) (rs : List Raw), vs = [.ref a, .int n, .ref l] ∧ H a = some (.ins (ga K "Poly") dx []) ∧ (∃ b, SqB K b H l (as.map V.ref)) ∧ RowsAt K H as rs ∧ rs.length ≤ 1000 ∧ (∀ r ∈ rs, r.1.length ≤ 1000 ∧ Big r.2.1 ∧ Big r.2.2) ∧
  (∀ i, i < rs.length → (∀ j, j < i → goodAt n rs j = true) → goodAt n rs i = false → ∀ d H', (∀ b o, b ≠ a → H b = some o → H' b = some o) → H' d = some (.xd [("tag", .str "InvalidTerm"), ("at", .int i)]) → E (.ref (ga K "InvalidTerm")) (some d) H') ∧
  ((∀ i, i < rs.length → goodAt n rs i = true) → ∀ d H', H d = none → (∀ b o, b ≠ a → H b = some o → H' b = some o) → H' a = some (.ins (ga K "Poly") dx [("width", .int n), ("table", .ref d)]) → TabAt K H' d (rawTab rs) → Q .non H')
/-- the polynomial with the table P in n unknowns at a -/
def PolyAt (K : PySem.W.Frag) (H : Hp) (a : Addr) (n : Nat) (P : Tab) : Prop := ∃ dx d, H a = some (.ins (ga K "Poly") dx [("width", .int n), ("table", .ref d)]) ∧ TabAt K H d P
theorem PolyAt.keep {K : PySem.W.Frag} {H H' : Hp} {a : Addr} {n : Nat} {P : Tab} (h : PolyAt K H a n P) (e1 : ∀ C dx fs, H a = some (.ins C dx fs) → H' a = some (.ins C dx fs)) (e2 : ∀ d kvs, H d = some (.dT kvs) → H' d = some (.dT kvs)) (k : TK K H H') : PolyAt K H' a n P := by
  obtain ⟨dx, d, h1, l, h2, h3⟩ := h
  exact ⟨dx, d, e1 _ _ _ h1, l, e2 _ _ h2, h3.keep k⟩
theorem PolyAt.same {K : PySem.W.Frag} {H H' : Hp} {a : Addr} {n : Nat} {P : Tab} (h : PolyAt K H a n P) (e : Same H H') : PolyAt K H' a n P := h.keep (fun _ _ _ z => e _ _ z) (fun _ _ z => e _ _ z) (TK.same e)
theorem PolyAt.ext {K : PySem.W.Frag} {H H' : Hp} {a : Addr} {n : Nat} {P : Tab} (h : PolyAt K H a n P) (e : LamX.ExtN H H') : PolyAt K H' a n P := h.keep (fun _ _ _ z => e _ _ z fun _ z => by cases z) (fun _ _ z => e _ _ z fun _ z => by cases z) (TK.ext e)
/-- all but a list's heap stays -/
theorem PolyAt.but {K : PySem.W.Frag} {H H' : Hp} {a p : Addr} {n : Nat} {P : Tab} {xs : List V} (h : PolyAt K H a n P) (hp : H p = some (.lst xs)) (e : ∀ b o, b ≠ p → H b = some o → H' b = some o) : PolyAt K H' a n P :=
  h.keep (fun _ _ _ z => e _ _ (ne_of z hp fun w => by cases w) z) (fun _ _ z => e _ _ (ne_of z hp fun w => by cases w) z) (TK.but hp (fun _ z => by cases z) (fun _ _ z => by cases z) e)
section
variable {P : Program} {w : World} {K : PySem.W.Frag} {mg : Str → Option Value} {base : Heap}
theorem ok_order_key (D : Dn K mg "order_key" s_order_key []) (m_sum : mg "sum" = none) : FOk P w K mg base 1 "order_key" ["exponents"] (spOrd K) := by
  refine D.ok sc_order_key (fun _ _ _ _ _ _ us hl => match us, hl with | [_], _ => rfl) (fun vs H Q E h => ?_) (fun cdv A outer s H vs Q E hr h => ?_)
  · obtain ⟨_, _, rfl, _⟩ := h
    rfl
  · obtain ⟨q, es, rfl, hs, hq⟩ := h
    refine ⟨_, (pss_one 
    (ps_ret (pe_tup (pa_cons (pe_callB (cr_sumT rfl) (by rfl) m_sum (by decide +kernel) (pa_cons (pv 0) pa_nil)) (pa_cons (pv 0) pa_nil))))), ?_⟩
    exact ⟨_, rfl, _, es, rfl, hs, _, rfl, sl 2, fun p hp => hq p _ (same_new hp) upd_same⟩
theorem ok_is_key (D : Dn K mg "is_key" s_is_key []) (m_len : mg "len" = none) (m_all : mg "all" = none) : FOk P w K mg base 1 "is_key" ["exponents", "many"] spIsKey := by
  refine D.ok sc_is_key (fun _ _ _ _ _ _ us hl => match us, hl with | [_, _], _ => rfl) (fun vs H Q E h => ?_) (fun cdv A outer s H vs Q E hr h => ?_)
  · obtain ⟨_, _, _, rfl, _⟩ := h
    rfl
  · obtain ⟨p, ks, n, rfl, hp, hz, hq⟩ := h
    refine ⟨_, (pss_one 
    (ps_ret (pe_and (pe_cmpR op_eq (pe_callB call_len_seq (by rfl) m_len (by decide +kernel) (pa_cons (pv 0) pa_nil)) (pv 1) (nomark _)) (pe_one (pe_callB (cr_all rfl) (by rfl) m_all (by decide +kernel) (pa_cons (pe_lc (own := [("exponent", 2)]) (g := (gName 2)) (tt := tYes) (by rfl) sc_is_key.nd (pi_tup (pv 0)) (blkOk_by (own := [("exponent", 2)]) (N := n_is_key) (sc := defScope s_is_key) (by decide +kernel)) (fun _ _ _ _ _ => (pg_name (i := 2) sc_is_key.nd rfl (Or.inl rfl))) (fun _ _ _ _ _ => pts_nil) (fun _ _ _ _ _ => (pe_cmpR op_ge (pv 2) pe_int (nomark _)))) pa_nil)))))), ?_⟩
    have e0 : decide (V.int ((ks.map V.int).length : Int) = V.int n) = decide ((ks.length : Int) = n) := by
      rw [List.length_map, decide_eq_decide]
      exact ⟨V.int.inj, congrArg V.int⟩
    refine ⟨_, rfl, p, _, rfl, .inr (.inl (.inl hp)), _, rfl, rfl, _, rfl, ?_⟩
    rw [e0]
    refine it2 (fun e => ?_) (fun e => ?_)
    · rw [e] at hq
      refine ⟨_, rfl, p, rfl, ⟨_, .inl (.inl hp)⟩, fun L hL => lc_seq (walk_tup (xs := ks.map V.int)) (fun i => .bl (decide (0 ≤ ks.getD i 0))) (by rw [List.length_map]; exact CT.sl _ (by omega)) hL (fun H' s => .inl (.inl (s _ _ hp))) (fun i x H1 H2 hi s hy R N hR => ?_) (fun H' s hl => ?_)⟩
      · obtain ⟨rfl, hx⟩ := hy
        rw [List.getElem?_map] at hx
        obtain ⟨z, hz, rfl⟩ := Option.map_eq_some_iff.mp hx
        have := hR H2 (Same.refl H2)
        rw [List.getD_eq_getElem?_getD, hz] at this
        exact ⟨rfl, _, rfl, _, _, rfl, rfl, this⟩
      · rw [List.length_map, range_map ks (fun z => V.bl (decide (0 ≤ z))) _ (fun i x hx => by rw [List.getD_eq_getElem?_getD, hx]; rfl)] at hl
        refine ⟨L, ks.map fun z => decide (0 ≤ z), rfl, .of (by rw [List.map_map]; exact hl), ?_⟩
        have := hq H' s
        rw [List.all_map]
        exact this
    · rw [e] at hq
      exact hq H (Same.refl H)
theorem ok_Poly_init (D : Dm K (fAd K ("Poly", some "__init__")) "__init__" "Poly.__init__" s_Poly_init []) (m_enumerate : mg "enumerate" = none) (C_Poly : Cls K (ga K "Poly")) (nf_Poly_width : NoAttr K (ga K "Poly") "width") (nf_Poly_table : NoAttr K (ga K "Poly") "table")
    (e_InvalidTerm : ErrC K "InvalidTerm" (some "at") "/claim/cut.py") (x_InvalidTerm : ∃ fd, FnOk P w K mg base CX0 1 (ma K (ga K "InvalidTerm") "__init__") fd ["self", "at"] (spInit1 (ga K "InvalidTerm") "at" "InvalidTerm") ∧ L2.Binds K fd ["self", "at"] []) (g_InvalidTerm : mg "InvalidTerm" = some (.ref (ga K "InvalidTerm")))
    (h_is_key : FOk P w K mg base 1 "is_key" ["exponents", "many"] spIsKey) (h_is_ratio : FOk P w K mg base 2 "is_ratio" ["pair"] (spIsRatio K)) :
    MOk (L2.CX P w) P w K mg base 4 (fAd K ("Poly", some "__init__")) ["self", "many", "terms"] (spPolyInit K) := by
  refine D.okX sc_Poly_init (fun _ _ _ _ _ _ us hl => match us, hl with | [_, _, _], _ => rfl) (fun vs H Q E h => ?_) (fun cdv A outer s H vs Q E hr h => ?_)
  · obtain ⟨_, _, _, _, _, _, rfl, _⟩ := h
    rfl
  · obtain ⟨a, dx, l, n, as, rs, rfl, ha, ⟨bl, hl⟩, hrs, hz, hb, hE, hQ⟩ := h
    refine ⟨_, (pss_cons 
    (ps_set (i := 3) sc_Poly_init.nd rfl (Or.inl rfl) pe_dnewT) (pss_cons 
    (ps_for (passes_of rfl) rfl (pi_enumB (by rfl) m_enumerate (pa_cons (pv 2) pa_nil)) (pg_tup (by rfl) (pgs_cons (pg_name (i := 4) sc_Poly_init.nd rfl (Or.inl rfl)) (pgs_cons (pg_tup (by rfl) (pgs_cons (pg_name (i := 5) sc_Poly_init.nd rfl (Or.inl rfl)) (pgs_cons (pg_name (i := 6) sc_Poly_init.nd rfl (Or.inl rfl)) pgs_nil))) pgs_nil))) (pss_cons 
      (ps_if (PW.pt (pw_or (pt_not (pt_val (pe_callF h_is_key (hr.mono (by first | decide | omega)) (pa_cons (pv 5) (pa_cons (pv 1) pa_nil))))) (pw_or (pt_cmp (pc_din (u1 hr) (pv 5) (pv 3))) (pw_or (pt_cmpR op_eq (pe_ix ix_tup (pv 6) pe_int (fun _ _ => rfl)) pe_int (nomark _)) (pw_or1 (pt_not (pt_val (pe_callF h_is_ratio (hr.mono (by first | decide | omega)) (pa_cons (pv 6) pa_nil))))))))) (pss_one 
        (ps_raise rfl (takes_of rfl rfl rfl rfl) (pmk_err1 e_InvalidTerm x_InvalidTerm (hr.mono (by first | decide | omega)) (by rfl) g_InvalidTerm (pv 4)))) pss_nil) (pss_one 
      (ps_asg (pv 6) (pg_sub (pv 3) (pv 5) (set_dict (u1 hr))))))) (pss_cons 
    (ps_fld (pv 0) (pv 1) (by rfl)) (pss_one 
    (ps_fld (pv 0) (pv 3) (by rfl)))))), ?_⟩
    refine fun d hd => ?_
    have s0 : Same H (upd H d (.dT [])) := same_new hd
    refine ⟨_, rfl, bl, l, _, rfl, hl.same s0, for_it (walk_enumB (xs := as.map V.ref)) (fun i σ H' => ∃ x4 x5 x6 : Option V, σ = [some (.ref a), some (.int n), some (.ref l), some (.ref d), x4, x5, x6] ∧ Same H H' ∧ TabAt K H' d (rawTab (rs.take i)) ∧ ∀ j, j < i → goodAt n rs j = true)
      ⟨none, none, none, rfl, s0, ⟨[], upd_same, .nil⟩, fun j hj => absurd hj (Nat.not_lt_zero j)⟩ (fun i σ H' _ hp => ?_) (fun i x σ H1 H2 hi hp hy => ?_) (fun σ H1 hp => ?_)⟩
    · obtain ⟨_, _, _, _, s1, _⟩ := hp
      exact hl.same s1
    · obtain ⟨x4, x5, x6, rfl, s1, ht, hg⟩ := hp
      obtain ⟨T, _, _, rfl, hT, rfl, e1, e2⟩ := hy
      cases e1
      have e2 : (as.map V.ref)[i]? = some _ := e2
      rw [List.getElem?_map] at e2
      obtain ⟨t, et, rfl⟩ := Option.map_eq_some_iff.mp e2
      obtain ⟨r, er, hr1⟩ := hrs.at et
      have s2 : Same H (upd H1 T (.tup [.int (i : Nat), .ref t])) := s1.trans (same_new hT)
      obtain ⟨p, v, ht1, hp1, hv1⟩ := hr1.keep (TK2.same s2)
      refine ⟨T, _, rfl, .of upd_same, rfl, _, _, rfl, _, _, rfl, ⟨t, _, rfl, ht1, rfl, _, _, rfl, _, _, rfl, rfl, rfl, ?_⟩⟩
      have hT2 := ht.same (same_new (o := .tup [.int (i : Nat), .ref t]) hT)
      generalize hH2 : upd H1 T (.tup [.int (i : Nat), .ref t]) = H2 at *
      obtain ⟨b1, b2, b3⟩ := hb r (List.mem_of_getElem? er)
      have eg : goodAt n rs i = (okRow n r && decide (r.1 ∉ (rs.take i).map Prod.fst)) := by
        unfold goodAt
        rw [er]
      have hi2 : i < rs.length := (List.getElem?_eq_some_iff.mp er).1
      refine ⟨_, rfl, _, rfl, p, r.1, n, rfl, hp1, b1, fun H3 s3 => ⟨_, rfl, ?_⟩⟩
      have s4 := s2.trans s3
      have bad : ∀ H', Same H H' → goodAt n rs i = false → ∀ d', H' d' = none → E (.ref (ga K "InvalidTerm")) (some d') (upd H' d' (.xd [("tag", .str "InvalidTerm"), ("at", .int (i : Nat))])) := fun H' sm e d' hd' => hE i hi2 hg e d' _ (fun b o _ z => (sm.trans (same_new hd')) _ _ z) upd_same
      refine it2 (fun c1 => ?_) (fun c1 => ?_)
      · refine itT rfl ⟨_, rfl, err_read fun d' hd' => bad H3 s4 ?_ d' hd'⟩
        rw [eg]
        cases q : okRow n r with
        | false => rfl
        | true =>
          obtain ⟨q1, q2, _⟩ := okRow_iff.mp q
          rw [decide_eq_true q1, List.all_eq_true.mpr fun e he => decide_eq_true (q2 e he)] at c1
          cases c1
      · have c1' : (decide ((r.1.length : Int) = n) && r.1.all fun e => decide (0 ≤ e)) = true := by simpa using c1
        obtain ⟨q1, q2⟩ := (Bool.and_eq_true _ _).mp c1' |>.imp of_decide_eq_true fun z => fun e he => of_decide_eq_true (List.all_eq_true.mp z e he)
        have hT3 := hT2.same s3
        have hv3 := same_sqT s3 hv1
        obtain ⟨l3, hd3, en⟩ := hT3
        refine ⟨_, rfl, _, rfl, d, _, rfl, .t hd3 (by rw [kI_V]; exact s3 _ _ hp1), _, rfl, ?_⟩
        obtain ⟨g1, g2⟩ := en.get r.1
        rw [keys_rawTab] at g1 g2
        by_cases c2 : r.1 ∈ (rs.take i).map Prod.fst
        · obtain ⟨_, g1, _⟩ := g1 c2
          rw [g1]
          refine itT rfl (itT rfl ⟨_, rfl, err_read fun d' hd' => bad H3 s4 ?_ d' hd'⟩)
          rw [eg, decide_eq_false (fun z => z c2), Bool.and_false]
        · rw [g2 c2]
          refine itF rfl ⟨_, rfl, _, _, 0, .int r.2.1, rfl, rfl, hv3, rfl, rfl, _, rfl, itD (fun c3 => ?_) (fun c3 => ?_)⟩
          · have c3 := V.int.inj c3
            refine itT rfl ⟨_, rfl, err_read fun d' hd' => bad H3 s4 ?_ d' hd'⟩
            rw [eg]
            cases q : okRow n r with
            | false => rfl
            | true => exact absurd c3 (okRow_iff.mp q).2.2.1
          · have c3 : r.2.1 ≠ 0 := fun z => c3 (congrArg V.int z)
            refine ⟨_, rfl, v, r.2.1, r.2.2, rfl, hv3, b2, b3, _, rfl, ?_⟩
            by_cases c4 : 0 < r.2.2 ∧ Int.gcd r.2.1 r.2.2 = 1
            · rw [decide_eq_true c4.1, decide_eq_true c4.2]
              refine itF rfl ?_
              have ok : okRow n r = true := okRow_iff.mpr ⟨q1, q2, c3, c4⟩
              refine ⟨_, rfl, _, rfl, _, rfl, d, _, rfl, .t hd3 (by rw [kI_V]; exact s3 _ _ hp1) ?_, ?_⟩
              · rw [List.length_map, en.length]
                unfold rawTab
                rw [List.length_map, List.length_take]
                exact slt' (by omega)
              · have sm : Same H (upd H3 d (.dT (putK (l3.map ent) (kI r.1) (.ref v)))) := fun b o e => by
                  rw [upd_ne (ne_of_none e hd)]
                  exact s4 _ _ e
                refine ⟨_, _, _, rfl, sm, ?_, fun j hj => ?_⟩
                · rw [putE_ent]
                  refine ⟨_, upd_same, ?_⟩
                  have tk : TK K H3 (upd H3 d (.dT ((putE l3 r.1 v).map ent))) := TK.upd hd3 (fun _ z => by cases z) (fun _ _ z => by cases z)
                  have qv : Qt K H3 v (Rat.divInt r.2.1 r.2.2) := by
                    obtain ⟨h1, h2⟩ := rat_of c4.1 c4.2
                    unfold Qt
                    rw [← h1, ← h2]
                    exact hv3
                  have e2 : rawTab (rs.take (i + 1)) = put (rawTab (rs.take i)) r.1 (Rat.divInt r.2.1 r.2.2) := by
                    unfold put
                    rw [if_neg (by rw [keys_rawTab]; exact c2), List.take_add_one, er]
                    unfold rawTab
                    rw [List.map_append]
                    rfl
                  rw [e2]
                  exact (en.putq r.1 qv).keep tk
                · rcases Nat.lt_or_ge j i with h | h
                  · exact hg j h
                  · obtain rfl : j = i := by omega
                    rw [eg, ok, decide_eq_true c2]
                    rfl
            · have e4 : (decide (0 < r.2.2) && decide (Int.gcd r.2.1 r.2.2 = 1)) = false := by
                rw [Bool.and_eq_false_iff]
                by_cases z : 0 < r.2.2
                · exact .inr (decide_eq_false fun y => c4 ⟨z, y⟩)
                · exact .inl (decide_eq_false z)
              rw [e4]
              refine itT rfl ⟨_, rfl, err_read fun d' hd' => bad H3 s4 ?_ d' hd'⟩
              rw [eg]
              unfold okRow
              rw [e4, Bool.and_false]
              rfl
    · obtain ⟨x4, x5, x6, rfl, s1, ht, hg⟩ := hp
      have hl2 : (as.map V.ref).length = rs.length := by rw [List.length_map, hrs.length]
      rw [hl2] at ht hg
      rw [List.take_of_length_le (Nat.le_refl _)] at ht
      have dn : d ≠ a := (ne_of_none ha hd).symm
      refine ⟨_, rfl, _, rfl, a, ga K "Poly", dx, [], rfl, s1 _ _ ha, C_Poly, nf_Poly_width, by decide, ?_⟩
      refine ⟨_, rfl, _, rfl, a, ga K "Poly", dx, _, rfl, upd_same, C_Poly, nf_Poly_table, (by show 1 < 1000; decide), ?_⟩
      refine hQ hg d _ hd (fun b o hb e => ?_) upd_same ?_
      · rw [upd_ne hb, upd_ne hb]
        exact s1 _ _ e
      · refine ht.keep (fun o e => ?_) ?_
        · rw [upd_ne dn, upd_ne dn]
          exact e
        · exact (TK.upd (s1 _ _ ha) (fun _ z => by cases z) (fun _ _ z => by cases z)).trans (TK.upd upd_same (fun _ z => by cases z) (fun _ _ z => by cases z))
end

/-! ### a table made a polynomial -/
def spOfTable (K : PySem.W.Frag) : Sp := fun vs H Q _ => ∃ (n : Nat) (d : Addr) (P : Tab), vs = [.int n, .ref d] ∧ TabAt K H d P ∧ Nrm n P ∧ n ≤ 1000 ∧ P.length ≤ 1000 ∧ (∀ t ∈ P, MidQ t.2) ∧ ∀ a H', H a = none → Same H H' → PolyAt K H' a n P → Q (.ref a) H'
theorem rows_pairs {K : PySem.W.Frag} {H H' : Hp} {l : List (Mono × Addr)} {P : Tab} {ts : List Addr} (en : Ents K H l P) (s : Same H H') (h : PairsOf H H' (l.map ent) ts) : RowsAt K H' ts (rawOf P) := by
  obtain ⟨h1, h2⟩ := h
  rw [List.length_map] at h1
  refine RowsAt.of_at (by unfold rawOf; rw [List.length_map, h1, en.length]) fun j t e => ?_
  obtain ⟨k, v, q, e1, e2, e3⟩ := h2 j t e
  rw [List.getElem?_map] at e1
  obtain ⟨p, hp, e4⟩ := Option.map_eq_some_iff.mp e1
  obtain ⟨x, hx, qx⟩ := en.at hp
  have e5 : (kI p.1, V.ref p.2) = (k, v) := e4
  cases e5
  refine ⟨(p.1, x.num, (x.den : Int)), by rw [rawOf_at, hx]; rfl, q, p.2, .inl (.inl e3), ?_, qx.keep (TK.same s)⟩
  rw [kI_V] at e2
  exact s _ _ e2
theorem raw_mid {n : Nat} {P : Tab} (h : Nrm n P) (hn : n ≤ 1000) (m : ∀ t ∈ P, MidQ t.2) : ∀ r ∈ rawOf P, r.1.length ≤ 1000 ∧ Big r.2.1 ∧ Big r.2.2 := fun r hr => by
  obtain ⟨t, ht, rfl⟩ := List.mem_map.mp hr
  exact ⟨by have := (h.ln t ht).1; show t.1.length ≤ _; omega, (m t ht).1.big, (m t ht).2.big⟩
/-- Poly(n, rows) of a table's rows -/
theorem make_rows {K : PySem.W.Frag} {H : Hp} {n : Nat} {l : Addr} {as : List Addr} {R : Tab} {F : Hp → Prop} {E : XK} {x dx : Addr} (hx : H x = none) (hdx : H dx = none) (hne : dx ≠ x) (hn : n ≤ 1000) (hb : ∃ b, SqB K b H l (as.map V.ref)) (hr : RowsAt K H as (rawOf R)) (nrm : Nrm n R) (hz : R.length ≤ 1000) (mid : ∀ t ∈ R, MidQ t.2) (q : ∀ H', Same H H' → PolyAt K H' x n R → F H') :
    spPolyInit K (.ref x :: ([.int n, .ref l] ++ [])) (upd (upd H dx (.own x)) x (.ins (ga K "Poly") dx [])) (fun v H2 => v = .non ∧ F H2) E := by
  have sx : Same H (upd (upd H dx (.own x)) x (.ins (ga K "Poly") dx [])) := fun b o e => by
    rw [upd_ne (ne_of_none e hx), upd_ne (ne_of_none e hdx)]
    exact e
  obtain ⟨b, hb⟩ := hb
  refine ⟨x, dx, l, n, as, rawOf R, rfl, upd_same, ⟨b, hb.same sx⟩, hr.keep (TK2.same sx), by unfold rawOf; rw [List.length_map]; exact hz, raw_mid nrm hn mid, fun i hi _ hb => ?_, fun _ d' H' hd' bt hins htab => ⟨rfl, ?_⟩⟩
  · rw [good_nrm nrm i hi] at hb
    cases hb
  · rw [rawTab_of] at htab
    exact q H' (fun b o e => bt b o (ne_of_none e hx) (sx _ _ e)) ⟨dx, d', hins, htab⟩
section
variable {P : Program} {w : World} {K : PySem.W.Frag} {mg : Str → Option Value} {base : Heap}
theorem ok_of_table (D : Dn K mg "of_table" s_of_table []) (m_list : mg "list" = none) (K_Poly : Mk K (ga K "Poly") (fAd K ("Poly", some "__init__"))) (g_Poly : mg "Poly" = some (.ref (ga K "Poly"))) (h_Poly_init : MOk (L2.CX P w) P w K mg base 4 (fAd K ("Poly", some "__init__")) ["self", "many", "terms"] (spPolyInit K)) :
    FOk P w K mg base 6 "of_table" ["many", "table"] (spOfTable K) := by
  refine D.ok sc_of_table (fun _ _ _ _ _ _ us hl => match us, hl with | [_, _], _ => rfl) (fun vs H Q E h => ?_) (fun cdv A outer s H vs Q E hr h => ?_)
  · obtain ⟨_, _, _, rfl, _⟩ := h
    rfl
  · obtain ⟨n, d, P0, rfl, ⟨l, hd, en⟩, nrm, hn, hz, mid, hQ⟩ := h
    refine ⟨_, (pss_one 
    (ps_ret (pe_makeM K_Poly h_Poly_init passL (hr.mono (by first | decide | omega)) g_Poly (pa_cons (pv 0) (pa_cons (pe_listItemsT (by rfl) (pv 1) (by rfl) m_list (by decide +kernel)) pa_nil))))), ?_⟩
    refine ⟨_, rfl, _, rfl, d, _, rfl, hd, fun H1 p ts s1 hp e1 hpr => ?_⟩
    refine fun x dx hx hdx hne => ?_
    have sx : Same H1 (upd (upd H1 dx (.own x)) x (.ins (ga K "Poly") dx [])) := fun b o e => by
      rw [upd_ne (ne_of_none e hx), upd_ne (ne_of_none e hdx)]
      exact e
    refine ⟨x, dx, p, n, ts, rawOf P0, rfl, upd_same, SqB.l (.inl (.of (sx _ _ e1))), (rows_pairs en s1 hpr).keep (TK2.same sx), by unfold rawOf; rw [List.length_map]; exact hz, raw_mid nrm hn mid, fun i hi _ hb => ?_, fun _ d' H' hd' bt hins htab => ⟨rfl, ?_⟩⟩
    · rw [good_nrm nrm i hi] at hb
      cases hb
    · rw [rawTab_of] at htab
      refine hQ x H' ?_ (s1.trans fun b o e => bt b o (ne_of_none e hx) (sx _ _ e)) ⟨dx, d', hins, htab⟩
      rcases e : H x with _ | o
      · rfl
      · rw [s1 _ _ e] at hx
        cases hx
end

/-! ### ratio, is_ratio -/
def spRatio (K : PySem.W.Frag) : Sp := fun vs H Q E => ∃ t u : Int, vs = [.int t, .int u] ∧ Big t ∧ Big u ∧ (u ≠ 0 → ∀ p H', H p = none → Same H H' → H' p = some (.tup [.int (fracT t u), .int (fracU t u)]) → Q (.ref p) H') ∧
  (u = 0 → ∀ d H', H d = none → Same H H' → H' d = some (.xd [("tag", .str "InvalidRatio"), ("given", .int u)]) → E (.ref (ga K "InvalidRatio")) (some d) H')
section
variable {P : Program} {w : World} {K : PySem.W.Frag} {mg : Str → Option Value} {base : Heap}
/-- ratio, called with two arguments, with one, by keywords -/
def RatioOk (P : Program) (w : World) (K : PySem.W.Frag) (mg : Str → Option Value) (base : Heap) : Prop := mg "ratio" = some (.ref (ga K "ratio")) ∧ PySem.W.keepIn K (.ref (ga K "ratio")) = true ∧ ∃ fd, FnOk P w K mg base (L2.CX P w) 3 (ga K "ratio") fd ["top", "under"] (spRatio K) ∧
  Binds K fd ["top", "under"] [] ∧ (∃ ds, Vals [V.int 1] ds ∧ Binds K fd ["top", "under"] ds) ∧ KBn K fd ["top", "under"] 0 ["under", "top"] (fun _ ws => ws.reverse) (fun _ zs => zs.reverse)
theorem RatioOk.f (h : RatioOk P w K mg base) : FOkX (L2.CX P w) P w K mg base 3 "ratio" ["top", "under"] (spRatio K) := by
  obtain ⟨a, b, fd, F, B, _⟩ := h
  exact ⟨a, b, fd, F, B⟩
theorem ok_ratio (D : Dn K mg "ratio" s_ratio [.int 1]) (e_InvalidRatio : ErrC K "InvalidRatio" (some "given") "/claim/cut.py")
    (x_InvalidRatio : ∃ fd, FnOk P w K mg base CX0 1 (ma K (ga K "InvalidRatio") "__init__") fd ["self", "given"] (spInit1 (ga K "InvalidRatio") "given" "InvalidRatio") ∧ Binds K fd ["self", "given"] [])
    (g_InvalidRatio : mg "InvalidRatio" = some (.ref (ga K "InvalidRatio"))) (h_greatest_common : FOk P w K mg base 1 "greatest_common" ["one", "other"] spGcd) : RatioOk P w K mg base := by
  obtain ⟨fd, F⟩ := D.f
  refine ⟨D.g, F.kp, fd, F.ok sc_ratio (fun vs H Q E h => ?_) (fun cdv A outer s H vs Q E hr h => ?_), ?_, ?_, ?_⟩
  · obtain ⟨a, b, rfl, _⟩ := h
    rfl
  · obtain ⟨t, u, rfl, ht, hu, hq, he⟩ := h
    refine ⟨_, (pss_cons 
    (ps_if (pt_cmpR op_eq (pv 1) pe_int (nomark _)) (pss_one 
      (ps_raise rfl (takes_of rfl rfl rfl rfl) (pmk_err1 e_InvalidRatio x_InvalidRatio (hr.mono (by first | decide | omega)) (by rfl) g_InvalidRatio (pv 1)))) pss_nil) (pss_cons 
    (ps_set (i := 2) sc_ratio.nd rfl (Or.inl rfl) (pe_callF h_greatest_common (hr.mono (by first | decide | omega)) (pa_cons (pv 0) (pa_cons (pv 1) pa_nil)))) (pss_cons 
    (ps_if (pt_cmpR op_lt (pv 1) pe_int (nomark _)) (pss_one 
      (ps_set (i := 2) sc_ratio.nd rfl (Or.inl rfl) (pe_op op_sub pe_int (pv 2)))) pss_nil) (pss_one 
    (ps_ret (pe_tup (pa_cons (pe_op op_fdivZ (pv 0) (pv 2)) (pa_cons (pe_op op_fdivZ (pv 1) (pv 2)) pa_nil)))))))), ?_⟩
    refine ⟨_, rfl, rfl, _, rfl, ?_⟩
    by_cases h0 : u = 0
    · refine itT (decide_eq_true (by rw [h0])) ⟨_, rfl, err_read fun d hd => he h0 d _ hd (same_new hd) upd_same⟩
    · refine itF (decide_eq_false fun z => h0 (V.int.inj z)) ?_
      have hq := hq h0
      refine ⟨_, rfl, _, rfl, t, u, rfl, ht, hu, _, rfl, _, _, rfl, rfl, _, rfl, ?_⟩
      have hg0 : (Int.gcd t u : Int) ≠ 0 := gcd_ne h0
      have hg1 : Big (Int.gcd t u : Int) := big_gcd2 hu h0
      by_cases hn : u < 0
      · have hz : Big (0 - (Int.gcd t u : Int)) := by
          rw [Int.zero_sub]
          exact hg1.neg
        have hz0 : 0 - (Int.gcd t u : Int) ≠ 0 := by omega
        refine itT (decide_eq_true hn) ⟨_, rfl, _, _, rfl, rfl, _, rfl, _, rfl, _, _, rfl, rfl, hz.div hz0, _, rfl, _, rfl, _, _, rfl, rfl, hz.div hz0, sl 2, fun p hp => ?_⟩
        refine hq p _ hp (same_new hp) ?_
        unfold fracT fracU den
        rw [if_pos hn, ← Int.zero_sub]
        exact upd_same
      · refine itF (decide_eq_false hn) ⟨_, rfl, _, rfl, _, _, rfl, rfl, hg1.div (by omega), _, rfl, _, rfl, _, _, rfl, rfl, hg1.div (by omega), sl 2, fun p hp => ?_⟩
        refine hq p _ hp (same_new hp) ?_
        unfold fracT fracU den
        rw [if_neg hn]
        exact upd_same
  · obtain ⟨ds, r, b⟩ := F.binds1 (ps := ["top", "under"]) 2 1 (by simp) rfl fun T kV doc pm an cdv ct us its hl hl2 => match us, its, hl, hl2 with | [_, _], [_], _, _ => ⟨_, rfl, rfl⟩
    cases r
    exact b
  · exact F.binds1 (ps := ["top", "under"]) 1 0 (by simp) rfl fun T kV doc pm an cdv ct us its hl hl2 => match us, its, hl, hl2 with | [_], [_], _, _ => ⟨_, rfl, rfl⟩
  · obtain ⟨oc, od, dV, kV, doc, pm, an, cdv, ct, osl, rfl, lk, hcd, hD, hK⟩ := F.ex
    rcases hD with ⟨e, _⟩ | ⟨_, T, o, its, m, rfl, lT, oT, rT⟩
    · cases e
    · refine ⟨fun s us ws X l1 l2 => BindsTo.of_looks fun M => ?_, fun {vs us zs ws} r1 r2 => ?_⟩
      · cases rT with
        | cons r0 rt =>
          cases rt
          match us, ws, l1, l2 with
          | [], [x, y], _, _ => exact looks_items X lT oT (.of_pure rfl)
      · cases r2 with
        | nil => exact .nil
        | cons a r2 => cases r2 with
          | nil => exact .cons a .nil
          | cons b r2 => exact (vals_rev (.cons a (.cons b r2)))
end
section
variable {X : Cx}
theorem pe_ratio1 {e : Expr} {te : TE} {p pos : Pos} (h : RatioOk X.prog X.w X.K X.mg X.base) (hr : Room 3 X.A) (ha : PE X e te) (hg : Gl X "ratio" := by rfl)
    (he : starEach [e] X.env = (false, eval e X.env) :: starEach [] X.env := by rfl) (hpl : (backTo pos (starEach [] X.env)).any (·.1) = false := by rfl) :
    PE X (.Call (.Name "ratio" p) [e] [] pos) (tCall (spRatio X.K) [.int 1] E0 (tCons te tNil)) := by
  obtain ⟨g, kp, fd, F, _, ⟨ds, r, b⟩, _⟩ := h
  exact pe_call F hr hg g kp b r passL (pa_cons ha pa_nil he) (by decide) he hpl
theorem pe_ratioK {e1 e2 : Expr} {t1 t2 : TE} {p p1 p2 pos : Pos} (h : RatioOk X.prog X.w X.K X.mg X.base) (hr : Room 3 X.A) (h1 : PE X e1 t1) (h2 : PE X e2 t2) (hg : Gl X "ratio" := by rfl)
    (hall : (backToKw pos (keywordEach [⟨some "under", e1, p1⟩, ⟨some "top", e2, p2⟩] X.env)).all (·.1.isSome) = true := by rfl) (hks : (backToKw pos (keywordEach [⟨some "under", e1, p1⟩, ⟨some "top", e2, p2⟩] X.env)).filterMap (·.1) = (["under", "top"] : List Str) := by rfl)
    (hpl : ((backTo pos (starEach [] X.env)).any (·.1) || (backToKw pos (keywordEach [⟨some "under", e1, p1⟩, ⟨some "top", e2, p2⟩] X.env)).any (·.1.isNone)) = false := by rfl) :
    PE X (.Call (.Name "ratio" p) [] [⟨some "under", e1, p1⟩, ⟨some "top", e2, p2⟩] pos) (tCallN 0 2 (spRatio X.K) (fun _ zs => zs.reverse) E0 tNil (tCons t1 (tCons t2 tNil))) := by
  obtain ⟨g, kp, fd, F, _, _, b⟩ := h
  exact pe_callN0 F hr hg g kp b passL (pk_cons h1 (pk_cons h2 pk_nil)) hall hks (by decide) hpl
end

/-! ### add -/
section
variable {P : Program} {w : World} {K : PySem.W.Frag} {mg : Str → Option Value} {base : Heap}
theorem ok_add (D : Dn K mg "add" s_add []) (h_ratio : RatioOk P w K mg base) : FOk P w K mg base 4 "add" ["one", "other"] (spAdd K) := by
  refine D.ok sc_add (fun _ _ _ _ _ _ us hl => match us, hl with | [_, _], _ => rfl) (fun vs H Q E h => ?_) (fun cdv A outer s H vs Q E hr h => ?_)
  · obtain ⟨_, _, _, _, _, _, rfl, _⟩ := h
    rfl
  · obtain ⟨p, q, a, b, c, d, rfl, hp, hq, ma, mb, mc, md, hb, hd, hQ⟩ := h
    refine ⟨_, (pss_cut 
    (ps_if (PW.pt (pw_and (pt_cmpR op_eq (pe_ix ix_tup (pv 0) pe_int (fun _ _ => rfl)) pe_int (nomark _)) (pw_and1 (pt_cmpR op_eq (pe_ix ix_tup (pv 1) pe_int (fun _ _ => rfl)) pe_int (nomark _))))) (pss_one 
      (ps_ret (pe_tupA (pa_cons (pe_op op_add (pe_ix ix_tup (pv 0) pe_int (fun _ _ => rfl)) (pe_ix ix_tup (pv 1) pe_int (fun _ _ => rfl))) (pa_cons pe_int pa_nil))))) pss_nil) (pss_one 
    (ps_ret (pe_callE h_ratio.f passL (hr.mono (by first | decide | omega)) (pa_cons (pe_op op_add (pe_op op_mulW (pe_ix ix_tup (pv 0) pe_int (fun _ _ => rfl)) (pe_ix ix_tup (pv 1) pe_int (fun _ _ => rfl))) (pe_op op_mulW (pe_ix ix_tup (pv 1) pe_int (fun _ _ => rfl)) (pe_ix ix_tup (pv 0) pe_int (fun _ _ => rfl)))) (pa_cons (pe_op op_mulW (pe_ix ix_tup (pv 0) pe_int (fun _ _ => rfl)) (pe_ix ix_tup (pv 1) pe_int (fun _ _ => rfl))) pa_nil)))))), ?_⟩
    refine ⟨fun σ H' => σ = [some (.ref p), some (.ref q)] ∧ H' = H, ?_, fun σ H' hm => ?_⟩
    · refine ⟨_, rfl, p, _, 1, .int b, rfl, rfl, hp, rfl, rfl, _, rfl, ?_⟩
      by_cases h1 : b = 1
      · subst h1
        refine itT (decide_eq_true rfl) ⟨_, rfl, q, _, 1, .int d, rfl, rfl, hq, rfl, rfl, _, rfl, ?_⟩
        by_cases h2 : d = 1
        · subst h2
          refine itT (decide_eq_true rfl) ⟨_, rfl, p, _, 0, .int a, rfl, rfl, hp, rfl, _, rfl, q, _, 0, .int c, rfl, rfl, hq, rfl, _, _, rfl, rfl, sl 2, fun r Hr _ sm e => hQ r Hr sm ?_⟩
          exact e.trans (frac1 (by show a * 1 + c * 1 = a + c; omega) rfl)
        · exact itF (decide_eq_false fun z => h2 (V.int.inj z)) ⟨rfl, rfl⟩
      · exact itF (decide_eq_false fun z => h1 (V.int.inj z)) (itF rfl ⟨rfl, rfl⟩)
    · obtain ⟨rfl, rfl⟩ := hm
      refine ⟨_, rfl, p, _, 0, .int a, rfl, rfl, hp, rfl, _, rfl, q, _, 1, .int d, rfl, rfl, hq, rfl, _, _, rfl, rfl, ma.big.mulW md.big, _, rfl, q, _, 0, .int c, rfl, rfl, hq, rfl, _, rfl, p, _, 1, .int b, rfl, rfl, hp, rfl, _, _, rfl, rfl, mc.big.mulW mb.big, _, _, rfl, rfl,
        _, rfl, p, _, 1, .int b, rfl, rfl, hp, rfl, _, rfl, q, _, 1, .int d, rfl, rfl, hq, rfl, _, _, rfl, rfl, mb.big.mulW md.big, _, _, rfl, mid_cross ma md mc mb, mid_mul mb md, fun _ r Hr _ sm e => hQ r Hr sm e, fun h => absurd h (Int.mul_ne_zero hb hd)⟩
end

/-! ### multiply -/
section
variable {P : Program} {w : World} {K : PySem.W.Frag} {mg : Str → Option Value} {base : Heap}
theorem ok_multiply (D : Dn K mg "multiply" s_multiply []) (h_ratio : RatioOk P w K mg base) : FOk P w K mg base 4 "multiply" ["one", "other"] (spMul K) := by
  refine D.ok sc_multiply (fun _ _ _ _ _ _ us hl => match us, hl with | [_, _], _ => rfl) (fun vs H Q E h => ?_) (fun cdv A outer s H vs Q E hr h => ?_)
  · obtain ⟨_, _, _, _, _, _, rfl, _⟩ := h
    rfl
  · obtain ⟨p, q, a, b, c, d, rfl, hp, hq, ma, mb, mc, md, hb, hd, hQ⟩ := h
    refine ⟨_, (pss_cut 
    (ps_if (PW.pt (pw_and (pt_cmpR op_eq (pe_ix ix_tup (pv 0) pe_int (fun _ _ => rfl)) pe_int (nomark _)) (pw_and1 (pt_cmpR op_eq (pe_ix ix_tup (pv 1) pe_int (fun _ _ => rfl)) pe_int (nomark _))))) (pss_one 
      (ps_ret (pe_tupA (pa_cons (pe_op op_mulW (pe_ix ix_tup (pv 0) pe_int (fun _ _ => rfl)) (pe_ix ix_tup (pv 1) pe_int (fun _ _ => rfl))) (pa_cons pe_int pa_nil))))) pss_nil) (pss_one 
    (ps_ret (pe_callE h_ratio.f passL (hr.mono (by first | decide | omega)) (pa_cons (pe_op op_mulW (pe_ix ix_tup (pv 0) pe_int (fun _ _ => rfl)) (pe_ix ix_tup (pv 1) pe_int (fun _ _ => rfl))) (pa_cons (pe_op op_mulW (pe_ix ix_tup (pv 0) pe_int (fun _ _ => rfl)) (pe_ix ix_tup (pv 1) pe_int (fun _ _ => rfl))) pa_nil)))))), ?_⟩
    refine ⟨fun σ H' => σ = [some (.ref p), some (.ref q)] ∧ H' = H, ?_, fun σ H' hm => ?_⟩
    · refine ⟨_, rfl, p, _, 1, .int b, rfl, rfl, hp, rfl, rfl, _, rfl, ?_⟩
      by_cases h1 : b = 1
      · subst h1
        refine itT (decide_eq_true rfl) ⟨_, rfl, q, _, 1, .int d, rfl, rfl, hq, rfl, rfl, _, rfl, ?_⟩
        by_cases h2 : d = 1
        · subst h2
          refine itT (decide_eq_true rfl) ⟨_, rfl, p, _, 0, .int a, rfl, rfl, hp, rfl, _, rfl, q, _, 0, .int c, rfl, rfl, hq, rfl, _, _, rfl, rfl, ma.big.mulW mc.big, sl 2, fun r Hr _ sm e => hQ r Hr sm ?_⟩
          exact e.trans (frac1 rfl rfl)
        · exact itF (decide_eq_false fun z => h2 (V.int.inj z)) ⟨rfl, rfl⟩
      · exact itF (decide_eq_false fun z => h1 (V.int.inj z)) (itF rfl ⟨rfl, rfl⟩)
    · obtain ⟨rfl, rfl⟩ := hm
      refine ⟨_, rfl, p, _, 0, .int a, rfl, rfl, hp, rfl, _, rfl, q, _, 0, .int c, rfl, rfl, hq, rfl, _, _, rfl, rfl, ma.big.mulW mc.big, _, rfl, p, _, 1, .int b, rfl, rfl, hp, rfl, _, rfl, q, _, 1, .int d, rfl, rfl, hq, rfl, _, _, rfl, rfl, mb.big.mulW md.big, _, _, rfl, mid_mul ma mc, mid_mul mb md, fun _ r Hr _ sm e => hQ r Hr sm e, fun h => absurd h (Int.mul_ne_zero hb hd)⟩
end

/-! ### a polynomial's value -/
/-- the numbers xs at ps -/
def PtsAt (K : PySem.W.Frag) (H : Hp) (ps : List Addr) (xs : List Rat) : Prop := ps.length = xs.length ∧ ∀ i p, ps[i]? = some p → Qt K H p (xs.getD i 0)
theorem PtsAt.keep {K : PySem.W.Frag} {H H' : Hp} {ps : List Addr} {xs : List Rat} (h : PtsAt K H ps xs) (k : TK K H H') : PtsAt K H' ps xs := ⟨h.1, fun i p e => (h.2 i p e).keep k⟩
theorem sqB_but {K : PySem.W.Frag} {H H' : Hp} {a d : Addr} {b : Bool} {xs : List V} {u : HO} (h : SqB K b H a xs) (hd : H d = some u) (n1 : ∀ xs, u ≠ .tup xs) (n2 : ∀ xs, u ≠ .lst xs) (n3 : ∀ o v, u ≠ .frz o v) (e : ∀ b o, b ≠ d → H b = some o → H' b = some o) : SqB K b H' a xs := by
  cases b with
  | true => exact TK.but hd n1 (fun o xs => n3 o _) e _ _ h
  | false =>
    rcases h with (h | ⟨o, h⟩) | h
    · exact .inl (.inl (e _ _ (ne_of h hd fun z => n2 _ z.symm) h))
    · exact .inl (.inr ⟨o, e _ _ (ne_of h hd fun z => n3 _ _ z.symm) h⟩)
    · exact .inr h
def spPolyValue (K : PySem.W.Frag) : Sp := fun vs H Q E => ∃ (a pt : Addr) (n : Nat) (P : Tab) (ps : List Addr) (xs : List Rat), vs = [.ref a, .ref pt] ∧ PolyAt K H a n P ∧ (∃ b, SqB K b H pt (ps.map V.ref)) ∧ PtsAt K H ps xs ∧ P.length ≤ 10000 ∧
  (xs.length ≠ n → ∀ d H', H d = none → Same H H' → H' d = some (.xd [("tag", .str "Mismatch"), ("wanted", .int n)]) → E (.ref (ga K "Mismatch")) (some d) H') ∧
  (xs.length = n → Nrm n P ∧ VOk P xs ∧ n ≤ 10000 ∧ (∀ t ∈ P, ∀ e ∈ t.1, e ≤ 1000000) ∧ ∀ r H', Same H H' → Qt K H' r (val P xs) → Q (.ref r) H')
section
variable {P : Program} {w : World} {K : PySem.W.Frag} {mg : Str → Option Value} {base : Heap}
theorem ok_Poly_value (D : Dm K (fAd K ("Poly", some "value")) "value" "Poly.value" s_Poly_value []) (C_Poly : Cls K (ga K "Poly")) (nf_Poly_width : NoAttr K (ga K "Poly") "width") (nf_Poly_table : NoAttr K (ga K "Poly") "table") (m_len : mg "len" = none) (m_zip : mg "zip" = none) (m_range : mg "range" = none)
    (h_add : FOk P w K mg base 4 "add" ["one", "other"] (spOpQ K (· + ·))) (h_multiply : FOk P w K mg base 4 "multiply" ["one", "other"] (spOpQ K (· * ·))) (e_Mismatch : ErrC K "Mismatch" (some "wanted") "/claim/cut.py")
    (x_Mismatch : ∃ fd, FnOk P w K mg base CX0 1 (ma K (ga K "Mismatch") "__init__") fd ["self", "wanted"] (spInit1 (ga K "Mismatch") "wanted" "Mismatch") ∧ Binds K fd ["self", "wanted"] []) (g_Mismatch : mg "Mismatch" = some (.ref (ga K "Mismatch"))) (g_ZERO : mg "ZERO" = some (.ref (ga K "ZERO"))) (T_ZERO : ∀ H : Hp, SqT K H (ga K "ZERO") [.int 0, .int 1]) :
    MOk (L2.CX P w) P w K mg base 5 (fAd K ("Poly", some "value")) ["self", "point"] (spPolyValue K) := by
  refine D.okX sc_Poly_value (fun _ _ _ _ _ _ us hl => match us, hl with | [_, _], _ => rfl) (fun vs H Q E h => ?_) (fun cdv A outer s H vs Q E hr h => ?_)
  · obtain ⟨_, _, _, _, _, _, rfl, _⟩ := h
    rfl
  · obtain ⟨a, pt, n, P0, ps, xs, rfl, pa, hb, hp, hz, hE, hQ⟩ := h
    refine ⟨_, (pss_cons 
    (ps_if (pt_cmpR op_ne (pe_callB call_len_seq (by rfl) m_len (by decide +kernel) (pa_cons (pv 1) pa_nil)) (pe_fld (pv 0) rfl) (nomark _)) (pss_one 
      (ps_raise rfl (takes_of rfl rfl rfl rfl) (pmk_err1 e_Mismatch x_Mismatch (hr.mono (by first | decide | omega)) (by rfl) g_Mismatch (pe_fld (pv 0) rfl)))) pss_nil) (pss_cons 
    (ps_set (i := 2) sc_Poly_value.nd rfl (Or.inl rfl) (pe_gl (v := .ref (ga K "ZERO")) ⟨_, g_ZERO, rfl⟩)) (pss_cons 
    (ps_lock (ps_for (passes_of rfl) rfl (pi_itemsT (pe_fld (pv 0) rfl)) (pg_tup (by rfl) (pgs_cons (pg_name (i := 3) sc_Poly_value.nd rfl (Or.inl rfl)) (pgs_cons (pg_name (i := 4) sc_Poly_value.nd rfl (Or.inl rfl)) pgs_nil))) (pss_cons 
      (ps_for (passes_of rfl) rfl (pi_zipM (by rfl) m_zip (pa_cons (pv 1) (pa_cons (pv 3) pa_nil))) (pg_tup (by rfl) (pgs_cons (pg_name (i := 5) sc_Poly_value.nd rfl (Or.inl rfl)) (pgs_cons (pg_name (i := 6) sc_Poly_value.nd rfl (Or.inl rfl)) pgs_nil))) (pss_one 
        (ps_for (passes_of rfl) rfl (pi_range1 (by rfl) m_range (pa_cons (pv 6) pa_nil)) (pg_name (i := 7) sc_Poly_value.nd rfl (Or.inl rfl)) (pss_one 
          (ps_set (i := 4) sc_Poly_value.nd rfl (Or.inl rfl) (pe_callF h_multiply (hr.mono (by first | decide | omega)) (pa_cons (pv 4) (pa_cons (pv 5) pa_nil)))))))) (pss_one 
      (ps_set (i := 2) sc_Poly_value.nd rfl (Or.inl rfl) (pe_callF h_add (hr.mono (by first | decide | omega)) (pa_cons (pv 2) (pa_cons (pv 4) pa_nil)))))))) (pss_one 
    (ps_ret (pv 2)))))), ?_⟩
    obtain ⟨dx, d, ha, l, hd, en⟩ := pa
    obtain ⟨bl, hb⟩ := hb
    have lps : ((ps.map V.ref).length : Int) = (xs.length : Int) := by rw [List.length_map, hp.1]
    refine ⟨_, rfl, pt, _, rfl, hb.or, _, rfl, a, ga K "Poly", dx, _, _, rfl, ha, C_Poly, nf_Poly_width, rfl, rfl, _, rfl, ?_⟩
    by_cases hn : xs.length = n
    · obtain ⟨nrm, vk, hn9, he9, hQ⟩ := hQ hn
      have eb : (!decide (V.int ((ps.map V.ref).length : Int) = V.int (n : Int))) = false := by
        rw [lps, hn]
        simp
      refine itF eb ?_
      refine ⟨d, _, hd, trivial, fun od => ?_⟩
      obtain ⟨Hf, eHf⟩ : ∃ Hf, Hf = upd H d (.frz od (.dT (l.map ent))) := ⟨_, rfl⟩
      rw [← eHf]
      have hdf : Hf d = some (.frz od (.dT (l.map ent))) := by rw [eHf]; exact upd_same
      have kf : ∀ b o, b ≠ d → H b = some o → Hf b = some o := fun b o h z => by rw [eHf, upd_ne h]; exact z
      have tkf : TK K H Hf := TK.but hd (fun _ z => by cases z) (fun _ _ z => by cases z) kf
      have haf := kf _ _ (ne_of ha hd fun z => by cases z) ha
      have hbf : SqB K bl Hf pt (ps.map V.ref) := sqB_but hb hd (fun _ z => by cases z) (fun _ z => by cases z) (fun _ _ z => by cases z) kf
      have hpf := hp.keep tkf
      have enf := en.keep tkf
      refine ⟨_, rfl, a, ga K "Poly", dx, _, _, rfl, haf, C_Poly, nf_Poly_table, rfl, d, od, _, rfl, hdf, for_it (walk_itemsT (kvs := l.map ent)) (fun i σ H' => ∃ (r : Addr) (x3 x4 x5 x6 x7 : Option V), σ = [some (.ref a), some (.ref pt), some (.ref r), x3, x4, x5, x6, x7] ∧ Same Hf H' ∧ Qt K H' r (vsum P0 xs i))
        ⟨_, none, none, none, none, none, rfl, Same.refl _, T_ZERO Hf⟩ (fun i σ H' _ hp => ?_) (fun i x σ H1 H2 hi hp1 hy => ?_) (fun σ H1 hp1 => ?_)⟩
      · obtain ⟨_, _, _, _, _, _, _, s1, _⟩ := hp
        exact s1 _ _ hdf
      · obtain ⟨r, x3, x4, x5, x6, x7, rfl, s1, hr1⟩ := hp1
        obtain ⟨T, k, v, q, ek, hq, rfl, hT, rfl⟩ := hy
        rw [List.getElem?_map] at ek
        obtain ⟨p, hpl, e2⟩ := Option.map_eq_some_iff.mp ek
        cases e2
        obtain ⟨y, hy, qv⟩ := (enf.keep (TK.same s1)).at hpl
        rw [kI_V] at hq
        have sT := same_new (o := .tup [.ref q, .ref p.2]) hT
        refine ⟨T, _, rfl, .of upd_same, rfl, _, _, rfl, _, _, rfl, rfl, ?_⟩
        generalize upd H1 T (.tup [.ref q, .ref p.2]) = H2 at sT ⊢
        have s2 := s1.trans sT
        have t0 : P0[i]? = some (p.1, y) := hy
        have tm : (p.1, y) ∈ P0 := List.mem_of_getElem? t0
        have gd : P0.getD i ([], 0) = (p.1, y) := by rw [List.getD_eq_getElem?_getD, t0]; rfl
        obtain ⟨ln, nn⟩ := nrm.ln _ tm
        have ln : p.1.length = n := ln
        have q2 := sT _ _ hq
        refine ⟨_, rfl, _, rfl, bl, true, pt, q, ps.map V.ref, p.1.map V.int, rfl, hbf.same s2, .inl (.inl q2), for_it (walk_zipM (n := n) (xs := ps.map V.ref) (ys := p.1.map V.int) (by rw [List.length_map, List.length_map, hp.1, hn, show p.1.length = n from ln, Nat.min_self])) (fun j σ H' => ∃ (v : Addr) (x5 x6 x7 : Option V), σ = [some (.ref a), some (.ref pt), some (.ref r), some (.ref q), some (.ref v), x5, x6, x7] ∧ Same H2 H' ∧ Qt K H' v (mvs y xs p.1 j))
          ⟨p.2, x5, x6, x7, rfl, Same.refl _, qv.keep (TK.same sT)⟩ (fun j σ H' _ hp => ?_) (fun j x σ H3 H4 hj hp3 hy3 => ?_) (fun σ H3 hp3 => ?_)⟩
        · obtain ⟨_, _, _, _, _, s3, _⟩ := hp
          exact ⟨(hbf.same s2).same s3, .inl (.inl (s3 _ _ q2))⟩
        · obtain ⟨v, x5, x6, x7, rfl, s3, qv3⟩ := hp3
          obtain ⟨T2, u1, u2, rfl, hT2, rfl, e1, e2⟩ := hy3
          have e1 : (ps.map V.ref)[j]? = some u1 := e1
          have e2 : (p.1.map V.int)[j]? = some u2 := e2
          rw [List.getElem?_map] at e1 e2
          obtain ⟨pp, epp, rfl⟩ := Option.map_eq_some_iff.mp e1
          obtain ⟨ex, eex, rfl⟩ := Option.map_eq_some_iff.mp e2
          have sT2 := same_new (o := .tup [.ref pp, .int ex]) hT2
          refine ⟨T2, _, rfl, .of upd_same, rfl, _, _, rfl, _, _, rfl, rfl, ?_⟩
          generalize upd H3 T2 (.tup [.ref pp, .int ex]) = H5 at sT2 ⊢
          have exm : ex ∈ p.1 := List.mem_of_getElem? eex
          have ex0 : 0 ≤ ex := nn ex exm
          have ex9 : ex ≤ 1000000 := he9 _ tm ex exm
          have gx : p.1.getD j 0 = ex := by rw [List.getD_eq_getElem?_getD, eex]; rfl
          have qp : Qt K H5 pp (xs.getD j 0) := ((hpf.keep (TK.same (s2.trans (s3.trans sT2)))).2 j pp epp)
          have hjn : j < p.1.length := by rw [ln]; exact hj
          refine ⟨_, rfl, ex.toNat, congrArg (fun z => [V.int z]) (by omega), by omega, by omega, for_range (fun m σ H' => ∃ (v : Addr) (x7 : Option V), σ = [some (.ref a), some (.ref pt), some (.ref r), some (.ref q), some (.ref v), some (.ref pp), some (.int ex), x7] ∧ Same H5 H' ∧ Qt K H' v (mv (mvs y xs p.1 j) (xs.getD j 0) m))
            ⟨v, x7, rfl, Same.refl _, qv3.keep (TK.same sT2)⟩ (fun m σ H6 hm hp6 => ?_) (fun σ H6 hp6 => ?_)⟩
          · obtain ⟨v, x7, rfl, s6, qv6⟩ := hp6
            have hxm : MidQ (xs.getD j 0) := vk.x _ (by
              rw [List.getD_eq_getElem?_getD, List.getElem?_eq_getElem (by omega)]
              exact List.getElem_mem _)
            refine ⟨_, rfl, _, rfl, v, pp, _, _, rfl, qv6, qp.keep (TK.same s6), vk.m _ tm j hjn m (by show m ≤ (p.1.getD j 0).toNat; rw [gx]; omega), hxm, fun r7 H7 s7 e7 => ⟨r7, _, rfl, s6.trans s7, Qt.of e7⟩⟩
          · obtain ⟨v, x7, rfl, s6, qv6⟩ := hp6
            refine ⟨v, _, _, _, rfl, s3.trans (sT2.trans s6), ?_⟩
            show Qt K H6 v (mv (mvs y xs p.1 j) (xs.getD j 0) (p.1.getD j 0).toNat)
            rw [gx]
            exact qv6
        · obtain ⟨v, x5, x6, x7, rfl, s3, qv3⟩ := hp3
          have s13 := s2.trans s3
          have mf := vk.f _ tm
          rw [ln] at mf
          refine ⟨_, rfl, _, rfl, r, v, _, _, rfl, hr1.keep (TK.same (sT.trans s3)), qv3, vk.s i (by have := (List.getElem?_eq_some_iff.mp t0).1; omega), mf, fun r7 H7 s7 e7 => ⟨r7, _, _, _, _, _, rfl, s13.trans s7, ?_⟩⟩
          show Qt K H7 r7 (vsum P0 xs i + mvs (P0.getD i ([], 0)).2 xs (P0.getD i ([], 0)).1 (P0.getD i ([], 0)).1.length)
          rw [gd]
          show Qt K H7 r7 (vsum P0 xs i + mvs y xs p.1 p.1.length)
          rw [ln]
          exact Qt.of e7
      · obtain ⟨r, x3, x4, x5, x6, x7, rfl, s1, hr1⟩ := hp1
        rw [List.length_map, en.length] at hr1
        refine ⟨s1 _ _ hdf, _, rfl, hQ r _ (thaw hd eHf s1) (hr1.keep ?_)⟩
        exact TK.upd (s1 _ _ hdf) (fun _ z => by cases z) (fun _ _ z => by cases z)
    · have eb : (!decide (V.int ((ps.map V.ref).length : Int) = V.int (n : Int))) = true := by
        rw [lps, decide_eq_false fun z => hn (by have := V.int.inj z; omega)]
        rfl
      refine itT eb ?_
      refine ⟨_, rfl, a, ga K "Poly", dx, _, _, rfl, ha, C_Poly, nf_Poly_width, rfl, err_read fun d' hd' => hE hn d' _ hd' (same_new hd') upd_same⟩
end

/-! ### _law_poly: the program's polynomial of a table -/
def spLawPoly (K : PySem.W.Frag) : Sp := fun vs H Q _ => ∃ (n : Nat) (d : Addr) (P : Tab), vs = [.int n, .ref d] ∧ TabAt K H d P ∧ Nrm n P ∧ n ≤ 1000 ∧ P.length ≤ 1000 ∧ (∀ t ∈ P, MidQ t.2) ∧ ∀ a H', H a = none → Same H H' → PolyAt K H' a n P → Q (.ref a) H'
section
variable {P : Program} {w : World} {K : PySem.W.Frag} {mg : Str → Option Value} {base : Heap}
theorem ok_law_poly (D : Dn K mg "_law_poly" s_law_poly []) (K_Poly : Mk K (ga K "Poly") (fAd K ("Poly", some "__init__"))) (g_Poly : mg "Poly" = some (.ref (ga K "Poly"))) (h_Poly_init : MOk (L2.CX P w) P w K mg base 4 (fAd K ("Poly", some "__init__")) ["self", "many", "terms"] (spPolyInit K)) :
    FOk P w K mg base 6 "_law_poly" ["_law_many", "_law_one"] (spLawPoly K) := by
  refine D.ok sc_law_poly (fun _ _ _ _ _ _ us hl => match us, hl with | [_, _], _ => rfl) (fun vs H Q E h => ?_) (fun cdv A outer s H vs Q E hr h => ?_)
  · obtain ⟨_, _, _, rfl, _⟩ := h
    rfl
  · obtain ⟨n, d, P0, rfl, ⟨l, hd, en⟩, nrm, hn, hz, mid, hQ⟩ := h
    refine ⟨_, (pss_one 
    (ps_ret (pe_makeM K_Poly h_Poly_init passL (hr.mono (by first | decide | omega)) g_Poly (pa_cons (pv 0) (pa_cons (pe_lock (pe_lc (own := [("_law_key", 2)]) (g := (gName 2)) (tt := tYes) (te := (tTupA (tCons (tVar 2) (tCons (tDGet (tVar 1) (tVar 2)) tNil)))) (by rfl) sc_law_poly.nd (pi_keys (pv 1)) (blkOk_by (own := [("_law_key", 2)]) (N := n_law_poly) (sc := defScope s_law_poly) (by decide +kernel)) (fun _ _ _ _ _ => (pg_name (i := 2) sc_law_poly.nd rfl (Or.inl rfl))) (fun _ _ _ _ _ => pts_nil) (fun _ _ _ _ _ => (pe_tupA (pa_cons (pv 2) (pa_cons (pe_dget (u1 hr) (pv 1) (pv 2) (fun _ _ => rfl)) pa_nil)))))) pa_nil))))), ?_⟩
    refine ⟨_, rfl, d, _, hd, trivial, fun od => ?_⟩
    obtain ⟨Hf, eHf⟩ : ∃ Hf, Hf = upd H d (.frz od (.dT (l.map ent))) := ⟨_, rfl⟩
    rw [← eHf]
    have hdf : Hf d = some (.frz od (.dT (l.map ent))) := by rw [eHf]; exact upd_same
    have tkf : TK K H Hf := TK.but hd (fun _ z => by cases z) (fun _ _ z => by cases z) fun b o h z => by rw [eHf, upd_ne h]; exact z
    have enf := en.keep tkf
    refine ⟨_, rfl, d, od, rfl, .inr ⟨_, hdf, fun L hL => lc_refs (K := K) (walk_keysT (kvs := l.map ent)) (fun j H t => ∃ r, (rawOf P0)[j]? = some r ∧ RowAt K H t r) (fun i H H' t k ⟨r, e, h⟩ => ⟨r, e, h.keep k⟩) (by rw [List.length_map, en.length]; exact CT.sl _ (by omega)) hL (fun H' s => s _ _ hdf) (fun i x H1 H2 hi s1 hy S N hS => ?_) (fun H' as s1 e1 l1 r1 => ?_)⟩⟩
    · obtain ⟨rfl, k, v, q, ek, rfl, hk⟩ := hy
      rw [List.getElem?_map] at ek
      obtain ⟨p, hp, e2⟩ := Option.map_eq_some_iff.mp ek
      cases e2
      have hk2 := hk
      rw [kI_V] at hk2
      obtain ⟨y, hy, qv⟩ := (enf.keep (TK.same s1)).at hp
      have tm : (p.1, y) ∈ P0 := List.mem_of_getElem? hy
      have km : p.1 ∈ keysT P0 := List.mem_map_of_mem tm
      obtain ⟨v2, ev, qv2⟩ := ((enf.keep (TK.same s1)).get p.1).1 km
      refine ⟨rfl, _, rfl, _, rfl, _, rfl, d, .ref v2, rfl, .inr ⟨_, kI p.1, q, .inr ⟨_, s1 _ _ hdf⟩, rfl, hk, ev.symm⟩, sl 2, fun t H4 ht s4 e4 => ?_⟩
      rw [gt_mem nrm.nd tm] at qv2
      exact hS t H4 s4 ⟨(p.1, y.num, (y.den : Int)), by rw [rawOf_at, hy]; rfl, q, v2, .inl (.inl e4), s4 _ _ hk2, qv2.keep (TK.same s4)⟩
    · refine ⟨s1 _ _ hdf, ?_⟩
      have s2 := thaw hd eHf s1
      have kb : TK2 K H' (upd H' d (.dT (l.map ent))) := TK2.upd (s1 _ _ hdf) (fun _ z => by cases z) (fun _ _ z => by cases z)
      have nL : L ≠ d := fun z => by rw [z, hdf] at hL; cases hL
      have hL0 : H L = none := by
        rw [eHf, upd_ne nL] at hL
        exact hL
      have rr := (RowsAt.of_at (by rw [l1, List.length_map, en.length]; unfold rawOf; rw [List.length_map]) r1).keep kb
      have eL : upd H' d (.dT (l.map ent)) L = some (.lst (as.map V.ref)) := by rw [upd_ne nL]; exact e1
      exact fun x dx hx hdx hne => make_rows hx hdx hne hn (SqB.l (.inl (.of eL))) rr nrm hz mid fun H3 s3 hp => hQ x H3 (none_of' s2 hx) (s2.trans s3) hp
end

/-! ### _law_small: one of eight fractions -/
def smalls : List (Int × Int) := [(0, 1), (1, 1), (-1, 1), (2, 1), (1, 2), (-3, 1), (5, 3), (1, 1)]
def spSmall (K : PySem.W.Frag) : Sp := fun vs H Q _ => ∃ (p c : Addr) (ns : List Int), vs = [.ref p] ∧ Feed H p c ns ∧ ∀ r H' x, Nxt p c ns H H' → H' r = some (.tup [.int x.1, .int x.2]) → x ∈ smalls → Q (.ref r) H'
section
variable {P : Program} {w : World} {K : PySem.W.Frag} {mg : Str → Option Value} {base : Heap}
theorem ok_law_small (D : Dn K mg "_law_small" s_law_small []) (h_law_pick : FOk P w K mg base 2 "_law_pick" ["_law_feed_here", "_law_things"] (spPickA K)) : FOk P w K mg base 3 "_law_small" ["_law_feed_here"] (spSmall K) := by
  refine D.ok sc_law_small (fun _ _ _ _ _ _ us hl => match us, hl with | [_], _ => rfl) (fun vs H Q E h => ?_) (fun cdv A outer s H vs Q E hr h => ?_)
  · obtain ⟨_, _, _, rfl, _⟩ := h
    rfl
  · obtain ⟨p, c, ns, rfl, hF, hQ⟩ := h
    refine ⟨_, (pss_one 
    (ps_ret (pe_callF h_law_pick (hr.mono (by first | decide | omega)) (pa_cons (pv 0) (pa_cons (pe_lstA (pa_cons (pe_tupA (pa_cons pe_int (pa_cons pe_int pa_nil))) (pa_cons (pe_tupA (pa_cons pe_int (pa_cons pe_int pa_nil))) (pa_cons (pe_tupA (pa_cons (pe_un un_neg pe_int) (pa_cons pe_int pa_nil))) (pa_cons (pe_tupA (pa_cons pe_int (pa_cons pe_int pa_nil))) (pa_cons (pe_tupA (pa_cons pe_int (pa_cons pe_int pa_nil))) (pa_cons (pe_tupA (pa_cons (pe_un un_neg pe_int) (pa_cons pe_int pa_nil))) (pa_cons (pe_tupA (pa_cons pe_int (pa_cons pe_int pa_nil))) (pa_cons (pe_tupA (pa_cons pe_int (pa_cons pe_int pa_nil))) pa_nil))))))))) pa_nil))))), ?_⟩
    refine ⟨_, rfl, sl 2, fun a1 H1 _ s1 e1 => ⟨sl 2, fun a2 H2 _ s2 e2 => ⟨_, rfl, sl 2, fun a3 H3 _ s3 e3 => ⟨sl 2, fun a4 H4 _ s4 e4 => ⟨sl 2, fun a5 H5 _ s5 e5 => ⟨_, rfl, sl 2, fun a6 H6 _ s6 e6 => ⟨sl 2, fun a7 H7 _ s7 e7 => ⟨sl 2, fun a8 H8 _ s8 e8 => ⟨sl 8, fun l H9 hl9 s9 e9 => ?_⟩⟩⟩⟩⟩⟩⟩⟩⟩
    have t9 : Same H8 H9 := s9
    have t8 := s8.trans t9
    have t7 := s7.trans t8
    have t6 := s6.trans t7
    have t5 := s5.trans t6
    have t4 := s4.trans t5
    have t3 := s3.trans t4
    have t2 := s2.trans t3
    have f9 := hF.keep (s1.trans t2)
    have lp : l ≠ p := (hF.keep (s1.trans (s2.trans (s3.trans (s4.trans (s5.trans (s6.trans (s7.trans s8)))))))).far hl9
    refine ⟨p, c, l, ns, _, rfl, f9, lp, .inl (.inl e9), by show 0 < 8; decide, by show 8 ≤ 1000; decide, fun v H' hv nx => ?_⟩
    have fin : ∀ (a : Addr) (x : Int × Int), H9 a = some (.tup [.int x.1, .int x.2]) → x ∈ smalls → Q (.ref a) H' := fun a x e hx => hQ a H' x ⟨nx.f, fun b o hb z => nx.but _ _ hb ((s1.trans t2) _ _ z)⟩ (nx.at (f9.tup_ne e) e) hx
    rcases List.mem_cons.mp hv with rfl | hv
    · exact fin a1 (0, 1) (t2 _ _ e1) (by decide)
    rcases List.mem_cons.mp hv with rfl | hv
    · exact fin a2 (1, 1) (t3 _ _ e2) (by decide)
    rcases List.mem_cons.mp hv with rfl | hv
    · exact fin a3 (-1, 1) (t4 _ _ e3) (by decide)
    rcases List.mem_cons.mp hv with rfl | hv
    · exact fin a4 (2, 1) (t5 _ _ e4) (by decide)
    rcases List.mem_cons.mp hv with rfl | hv
    · exact fin a5 (1, 2) (t6 _ _ e5) (by decide)
    rcases List.mem_cons.mp hv with rfl | hv
    · exact fin a6 (-3, 1) (t7 _ _ e6) (by decide)
    rcases List.mem_cons.mp hv with rfl | hv
    · exact fin a7 (5, 3) (t8 _ _ e7) (by decide)
    rw [List.mem_singleton.mp hv]
    exact fin a8 (1, 1) (t9 _ _ e8) (by decide)
theorem sz_of {t u : Int} {D : Nat} {m : Nat} (hu : 0 < u) (hd : u ∣ (D : Int)) (ht : t.natAbs ≤ m) : Sz D (m * D) (Rat.divInt t u) := Sz.of_ints hu hd (Nat.mul_le_mul_right _ ht)
end

/-! ### _law_value -/
def spLawValue (K : PySem.W.Frag) : Sp := fun vs H Q _ => ∃ (d pt : Addr) (n : Nat) (P : Tab) (ps : List Addr) (xs : List Rat), vs = [.ref d, .ref pt] ∧ TabAt K H d P ∧ SqL K H pt (ps.map V.ref) ∧ PtsAt K H ps xs ∧ P.length ≤ 10000 ∧ xs.length = n ∧ Nrm n P ∧ VOk P xs ∧ n ≤ 10000 ∧ (∀ t ∈ P, ∀ e ∈ t.1, e ≤ 1000000) ∧
  ∀ r H', Same H H' → Qt K H' r (val P xs) → Q (.ref r) H'
section
variable {P : Program} {w : World} {K : PySem.W.Frag} {mg : Str → Option Value} {base : Heap}
theorem ok_law_value (D : Dn K mg "_law_value" s_law_value []) (m_range : mg "range" = none) (m_len : mg "len" = none) (h_law_by : FOk P w K mg base 3 "_law_by" ["_law_one", "_law_two"] (spOpQ K (· * ·))) (h_law_plus : FOk P w K mg base 3 "_law_plus" ["_law_one", "_law_two"] (spOpQ K (· + ·))) : FOk P w K mg base 4 "_law_value" ["_law_one", "_law_point"] (spLawValue K) := by
  refine D.ok sc_law_value (fun _ _ _ _ _ _ us hl => match us, hl with | [_, _], _ => rfl) (fun vs H Q E h => ?_) (fun cdv A outer s H vs Q E hr h => ?_)
  · obtain ⟨_, _, _, _, _, _, rfl, _⟩ := h
    rfl
  · obtain ⟨d, pt, n, P0, ps, xs, rfl, ⟨l, hd, en⟩, hb, hp, hz, hn, nrm, vk, hn9, he9, hQ⟩ := h
    refine ⟨_, (pss_cons 
    (ps_set (i := 2) sc_law_value.nd rfl (Or.inl rfl) (pe_tupA (pa_cons pe_int (pa_cons pe_int pa_nil)))) (pss_cons 
    (ps_lock (ps_for PassesOwn.never rfl (pi_keys (pv 0)) (pg_name (i := 3) sc_law_value.nd rfl (Or.inl rfl)) (pss_cons 
      (ps_set (i := 4) sc_law_value.nd rfl (Or.inl rfl) (pe_dget (u1 hr) (pv 0) (pv 3) (fun _ _ => rfl))) (pss_cons 
      (ps_for PassesOwn.never rfl (pi_range1 (by rfl) m_range (pa_cons (pe_callB call_len_seq (by rfl) m_len (by decide +kernel) (pa_cons (pv 3) pa_nil)) pa_nil)) (pg_name (i := 5) sc_law_value.nd rfl (Or.inl rfl)) (pss_one 
        (ps_for PassesOwn.never rfl (pi_range1 (by rfl) m_range (pa_cons (pe_ix ix_tup (pv 3) (pv 5) (fun _ _ => rfl)) pa_nil)) (pg_name (i := 6) sc_law_value.nd rfl (Or.inl rfl)) (pss_one 
          (ps_set (i := 4) sc_law_value.nd rfl (Or.inl rfl) (pe_callF h_law_by (hr.mono (by first | decide | omega)) (pa_cons (pv 4) (pa_cons (pe_ix ix_list (pv 1) (pv 5) (fun _ _ => rfl)) pa_nil)))))))) (pss_one 
      (ps_set (i := 2) sc_law_value.nd rfl (Or.inl rfl) (pe_callF h_law_plus (hr.mono (by first | decide | omega)) (pa_cons (pv 2) (pa_cons (pv 4) pa_nil))))))))) (pss_one 
    (ps_ret (pv 2))))), ?_⟩
    refine ⟨sl 2, fun z Hz hz0 sz ez => ?_⟩
    have hdz := sz _ _ hd
    refine ⟨d, _, hdz, trivial, fun od => ?_⟩
    obtain ⟨Hf, eHf⟩ : ∃ Hf, Hf = upd Hz d (.frz od (.dT (l.map ent))) := ⟨_, rfl⟩
    rw [← eHf]
    have hdf : Hf d = some (.frz od (.dT (l.map ent))) := by rw [eHf]; exact upd_same
    have kf : ∀ b o, b ≠ d → Hz b = some o → Hf b = some o := fun b o h z => by rw [eHf, upd_ne h]; exact z
    have tkf : TK K Hz Hf := TK.but hdz (fun _ z => by cases z) (fun _ _ z => by cases z) kf
    have hbf : SqB K false Hf pt (ps.map V.ref) := sqB_but (b := false) (sqL_same sz hb) hdz (fun _ z => by cases z) (fun _ z => by cases z) (fun _ _ z => by cases z) kf
    have hpf := (hp.keep (TK.same sz)).keep tkf
    have enf := (en.keep (TK.same sz)).keep tkf
    refine ⟨_, rfl, d, od, rfl, .inr ⟨_, hdf, for_it (walk_keysT (kvs := l.map ent)) (fun i σ H' => ∃ (r : Addr) (x3 x4 x5 x6 : Option V), σ = [some (.ref d), some (.ref pt), some (.ref r), x3, x4, x5, x6] ∧ Same Hf H' ∧ Qt K H' r (vsum P0 xs i))
      ⟨_, none, none, none, none, rfl, Same.refl _, tkf _ _ (.inl (.inl ez))⟩ (fun i σ H' _ hp => ?_) (fun i x σ H1 H2 hi hp1 hy => ?_) (fun σ H1 hp1 => ?_)⟩⟩
    · obtain ⟨_, _, _, _, _, _, s1, _⟩ := hp
      exact s1 _ _ hdf
    · obtain ⟨r, x3, x4, x5, x6, rfl, s1, hr1⟩ := hp1
      obtain ⟨rfl, k, v, q, ek, rfl, hk⟩ := hy
      rw [List.getElem?_map] at ek
      obtain ⟨p, hpl, e2⟩ := Option.map_eq_some_iff.mp ek
      cases e2
      have hk2 := hk
      rw [kI_V] at hk2
      obtain ⟨y, hy, _⟩ := (enf.keep (TK.same s1)).at hpl
      have tm : (p.1, y) ∈ P0 := List.mem_of_getElem? hy
      have gd : P0.getD i ([], 0) = (p.1, y) := by rw [List.getD_eq_getElem?_getD, hy]; rfl
      obtain ⟨v2, ev, qv⟩ := ((enf.keep (TK.same s1)).get p.1).1 (List.mem_map_of_mem tm)
      rw [gt_mem nrm.nd tm] at qv
      obtain ⟨ln, nn⟩ := nrm.ln _ tm
      have ln : p.1.length = n := ln
      refine ⟨_, rfl, _, rfl, d, .ref v2, rfl, .inr ⟨_, kI p.1, q, .inr ⟨_, s1 _ _ hdf⟩, rfl, hk, ev.symm⟩, ?_⟩
      refine ⟨_, rfl, q, _, rfl, .inr (.inl (.inl hk2)), n, congrArg (fun z => [V.int z]) (by rw [List.length_map, ln]), by omega, by omega, for_range (fun j σ H' => ∃ (v : Addr) (x5 x6 : Option V), σ = [some (.ref d), some (.ref pt), some (.ref r), some (.ref q), some (.ref v), x5, x6] ∧ Same H2 H' ∧ Qt K H' v (mvs y xs p.1 j)) ⟨v2, x5, x6, rfl, Same.refl _, qv⟩ (fun j σ H3 hj hp3 => ?_) (fun σ H3 hp3 => ?_)⟩
      · obtain ⟨v, x5, x6, rfl, s3, qv3⟩ := hp3
        have hjn : j < p.1.length := by omega
        have eex : p.1[j]? = some (p.1[j]) := List.getElem?_eq_getElem hjn
        generalize p.1[j] = ex at eex
        have exm : ex ∈ p.1 := List.mem_of_getElem? eex
        have ex0 : 0 ≤ ex := nn ex exm
        have ex9 : ex ≤ 1000000 := he9 _ tm ex exm
        have gx : p.1.getD j 0 = ex := by rw [List.getD_eq_getElem?_getD, eex]; rfl
        have hjp : j < ps.length := by rw [hp.1]; omega
        have epp : ps[j]? = some (ps[j]) := List.getElem?_eq_getElem hjp
        generalize ps[j] = pp at epp
        have qp : Qt K H3 pp (xs.getD j 0) := (hpf.keep (TK.same (s1.trans s3))).2 j pp epp
        refine ⟨_, rfl, _, rfl, q, p.1.map V.int, 0 + (j : Int), .int ex, rfl, rfl, .inl (.inl (s3 _ _ hk2)), by rw [Int.zero_add]; exact atI_nat (by rw [List.getElem?_map, eex]; rfl), ex.toNat, congrArg (fun z => [V.int z]) (by omega), by omega, by omega, for_range (fun m σ H' => ∃ (v : Addr) (x6 : Option V), σ = [some (.ref d), some (.ref pt), some (.ref r), some (.ref q), some (.ref v), some (.int (0 + (j : Int))), x6] ∧ Same H3 H' ∧ Qt K H' v (mv (mvs y xs p.1 j) (xs.getD j 0) m))
          ⟨v, x6, rfl, Same.refl _, qv3⟩ (fun m σ H6 hm hp6 => ?_) (fun σ H6 hp6 => ?_)⟩
        · obtain ⟨v, x6, rfl, s6, qv6⟩ := hp6
          have hxm : MidQ (xs.getD j 0) := vk.x _ (by
            rw [List.getD_eq_getElem?_getD, List.getElem?_eq_getElem (by omega)]
            exact List.getElem_mem _)
          refine ⟨_, rfl, _, rfl, _, rfl, pt, ps.map V.ref, 0 + (j : Int), .ref pp, rfl, rfl, sqL_same (s1.trans (s3.trans s6)) hbf, by rw [Int.zero_add]; exact atI_nat (by rw [List.getElem?_map, epp]; rfl), v, pp, _, _, rfl, qv6, qp.keep (TK.same s6), vk.m _ tm j hjn m (by show m ≤ (p.1.getD j 0).toNat; rw [gx]; omega), hxm, fun r7 H7 s7 e7 => ⟨r7, _, rfl, s6.trans s7, Qt.of e7⟩⟩
        · obtain ⟨v, x6, rfl, s6, qv6⟩ := hp6
          refine ⟨v, _, _, rfl, s3.trans s6, ?_⟩
          show Qt K H6 v (mv (mvs y xs p.1 j) (xs.getD j 0) (p.1.getD j 0).toNat)
          rw [gx]
          exact qv6
      · obtain ⟨v, x5, x6, rfl, s3, qv3⟩ := hp3
        have mf := vk.f _ tm
        rw [ln] at mf
        refine ⟨_, rfl, _, rfl, r, v, _, _, rfl, hr1.keep (TK.same s3), qv3, vk.s i (by have := (List.getElem?_eq_some_iff.mp hy).1; omega), mf, fun r7 H7 s7 e7 => ⟨r7, _, _, _, _, rfl, s1.trans (s3.trans s7), ?_⟩⟩
        show Qt K H7 r7 (vsum P0 xs i + mvs (P0.getD i ([], 0)).2 xs (P0.getD i ([], 0)).1 (P0.getD i ([], 0)).1.length)
        rw [gd]
        show Qt K H7 r7 (vsum P0 xs i + mvs y xs p.1 p.1.length)
        rw [ln]
        exact Qt.of e7
    · obtain ⟨r, x3, x4, x5, x6, rfl, s1, hr1⟩ := hp1
      rw [List.length_map, en.length] at hr1
      refine ⟨s1 _ _ hdf, _, rfl, hQ r _ (sz.trans (thaw hdz eHf s1)) (hr1.keep ?_)⟩
      exact TK.upd (s1 _ _ hdf) (fun _ z => by cases z) (fun _ _ z => by cases z)
end

/-! ### the law -/
abbrev lam_law_0 : LamD := lamAt (defBody s_law) [1, 6] [0] none
abbrev lam_law_1 : LamD := lamAt (defBody s_law) [1, 7, 0] [1] none
def spLaw (K : PySem.W.Frag) (P : Addr) : Sp := fun vs H Q _ => ∃ (a : Addr) (ns : List Int), vs = [.ref a] ∧ SqL K H a (ns.map V.int) ∧ ns.length ≤ 63 ∧ H P = some (.tbl #[]) ∧ ∀ H', Q (.bl true) H'
/-- the law's lambdas -/
def lawT (K : PySem.W.Frag) : List (Addr × Str) := [((cT K ("law", none)).2, "law.<locals>.<lambda>")]
def why1 : List (Str × Option Str) := [("InvalidRatio", some "given"), ("InvalidTerm", some "at"), ("Mismatch", some "wanted")]
/-- the numbers of a point: their sizes -/
def PSz (x : Rat) : Prop := Sz 2520 22680 x
theorem PSz.of {t u : Int} (hu : 0 < u) (h1 : t.natAbs ≤ 9) (h2 : u.natAbs ≤ 9) : PSz (Rat.divInt t u) := by
  refine sz_of (m := 9) hu ?_ h1
  have : u = 1 ∨ u = 2 ∨ u = 3 ∨ u = 4 ∨ u = 5 ∨ u = 6 ∨ u = 7 ∨ u = 8 ∨ u = 9 := by omega
  rcases this with rfl | rfl | rfl | rfl | rfl | rfl | rfl | rfl | rfl <;> decide
theorem Qt.ofI {K : PySem.W.Frag} {H : Hp} {r : Addr} {t u : Int} (h : H r = some (.tup [.int t, .int u])) (hu : 0 < u) (hg : Int.gcd t u = 1) : Qt K H r (Rat.divInt t u) := by
  obtain ⟨q1, q2⟩ := rat_of hu hg
  unfold Qt
  rw [← q1, ← q2]
  exact .inl (.inl h)
theorem small_ok : ∀ x ∈ smalls, 0 < x.2 ∧ Int.gcd x.1 x.2 = 1 ∧ x.1.natAbs ≤ 9 ∧ x.2.natAbs ≤ 9 := by decide +kernel
theorem PtsAt.add {K : PySem.W.Frag} {H : Hp} {ps : List Addr} {xs : List Rat} (h : PtsAt K H ps xs) {r : Addr} {x : Rat} (hr : Qt K H r x) : PtsAt K H (ps ++ [r]) (xs ++ [x]) := by
  refine ⟨by rw [List.length_append, List.length_append, h.1]; rfl, fun i p e => ?_⟩
  by_cases hi : i < ps.length
  · rw [List.getElem?_append_left hi] at e
    have := h.2 i p e
    rw [List.getD_eq_getElem?_getD, List.getElem?_append_left (by rw [← h.1]; exact hi), ← List.getD_eq_getElem?_getD]
    exact this
  · have hi2 : i = ps.length := by
      have := (List.getElem?_eq_some_iff.mp e).1
      rw [List.length_append] at this
      have : i < ps.length + 1 := this
      omega
    subst hi2
    rw [List.getElem?_concat_length] at e
    cases e
    rw [List.getD_eq_getElem?_getD, h.1, List.getElem?_concat_length]
    exact hr
theorem PtsAt.tail {K : PySem.W.Frag} {H : Hp} {ps : List Addr} {xs : List Rat} (h : PtsAt K H ps xs) : PtsAt K H (ps.drop 1) (xs.drop 1) :=
  ⟨by rw [List.length_drop, List.length_drop, h.1], fun i p e => by
    rw [List.getElem?_drop] at e
    have := h.2 _ p e
    rw [List.getD_eq_getElem?_getD] at this
    rw [List.getD_eq_getElem?_getD, List.getElem?_drop]
    exact this⟩
/-- a point under way -/
structure Pt (K : PySem.W.Frag) (H : Hp) (L : Addr) (ps : List Addr) (xs : List Rat) (k : Nat) : Prop where
  l : H L = some (.lst (ps.map V.ref))
  p : PtsAt K H ps xs
  n : xs.length = k
  s : ∀ x ∈ xs, PSz x
theorem Pt.add {K : PySem.W.Frag} {H : Hp} {L : Addr} {ps : List Addr} {xs : List Rat} {k : Nat} (h : Pt K H L ps xs k) {r : Addr} {x : Rat} (hr : Qt K H r x) (hx : PSz x) : Pt K (upd H L (.lst (ps.map V.ref ++ [V.ref r]))) L (ps ++ [r]) (xs ++ [x]) (k + 1) := by
  have tk : TK K H (upd H L (.lst (ps.map V.ref ++ [V.ref r]))) := TK.upd h.l (fun _ z => by cases z) (fun _ _ z => by cases z)
  refine ⟨by rw [upd_same, List.map_append]; rfl, (h.p.add hr).keep tk, by rw [List.length_append, h.n]; rfl, fun y hy => ?_⟩
  rcases List.mem_append.mp hy with hy | hy
  · exact h.s y hy
  · rw [List.mem_singleton.mp hy]
    exact hx
theorem Pt.keep {K : PySem.W.Frag} {H H' : Hp} {L : Addr} {ps : List Addr} {xs : List Rat} {k : Nat} (h : Pt K H L ps xs k) (e : H' L = H L) (t : TK K H H') : Pt K H' L ps xs k := ⟨e.trans h.l, h.p.keep t, h.n, h.s⟩
theorem Pt.same {K : PySem.W.Frag} {H H' : Hp} {L : Addr} {ps : List Addr} {xs : List Rat} {k : Nat} (h : Pt K H L ps xs k) (s : Same H H') : Pt K H' L ps xs k := ⟨s _ _ h.l, h.p.keep (TK.same s), h.n, h.s⟩
def fr (x : Rat) : Int × Int := (x.num, (x.den : Int))
theorem PtsAt.dps {K : PySem.W.Frag} {H : Hp} : ∀ {ps : List Addr} {xs : List Rat}, PtsAt K H ps xs → DpAll K H (ps.map V.ref) ((xs.map fr).map fracF)
  | [], [], _ => .nil
  | [], _ :: _, h => by cases h.1
  | _ :: _, [], h => by cases h.1
  | p :: ps, x :: xs, h => .cons (dp_frac (h.2 0 p rfl)) (PtsAt.dps ⟨Nat.succ.inj h.1, fun i q e => h.2 (i + 1) q e⟩)
theorem Qt.eqd {K : PySem.W.Frag} {H : Hp} {r s : Addr} {x : Rat} {n : Nat} (h : Qt K H r x) (g : Qt K H s x) : EqD K H (n + 1) (.ref r) (.ref s) := eqT h g ⟨EqD.flat rfl, EqD.flat rfl, trivial⟩
abbrev lawEnv (K : PySem.W.Frag) (s : Shared) : Env := envOfC "law" (defScope s_law) s.heap.objs.size (ga K "law") (.ref (He.codeOf K ("law", none)))
/-- what the asking of a turn leans on -/
structure As (K : PySem.W.Frag) (s : Shared) (p c : Addr) (ns : List Int) (mk : Addr) (n : Nat) (P : Tab) (L : Addr) (ps : List Addr) (xs : List Rat) (la : Addr) (fs : List Addr) (H : Hp) : Prop where
  f : Feed H p c ns
  m : PolyAt K H mk n P
  l : Pt K H L ps xs n
  a : H la = some (.lst (fs.map V.ref))
  z : fs.length = if 0 < n then 2 else 1
  f0 : ∀ f, fs[0]? = some f → LamAt (lawEnv K s) lam_law_0 f H
  f1 : ∀ f, fs[1]? = some f → LamAt (lawEnv K s) lam_law_1 f H
theorem As.ext {K : PySem.W.Frag} {s : Shared} {p c mk L la : Addr} {ns : List Int} {n : Nat} {P : Tab} {ps fs : List Addr} {xs : List Rat} {H H' : Hp} (h : As K s p c ns mk n P L ps xs la fs H) (e : LamX.ExtN H H') : As K s p c ns mk n P L ps xs la fs H' :=
  ⟨h.f.extN e, h.m.ext e, ⟨e _ _ h.l.l (fun _ z => by cases z), h.l.p.keep (TK.ext e), h.l.n, h.l.s⟩, e _ _ h.a (fun _ z => by cases z), h.z, fun f z => (h.f0 f z).ext e, fun f z => (h.f1 f z).ext e⟩
section
variable {P : Program} {w : World} {K : PySem.W.Frag} {mg : Str → Option Value} {base : Heap}
theorem ok_law {fd : FuncData} (F : FunD K "law" "law" (defArgs s_law) (defBody s_law) (defScope s_law) [] [] (ga K "law") fd) (TB : LamX.TabB base mg (cT K ("law", none)).1 (cT K ("law", none)).2) (D_why : Dn K mg "_law_why" s_law_why []) (gE : ∀ m ∈ whyNames, mg m = some (.ref (ga K m)))
    (hR : ∀ n x, (n, x) ∈ why1 → WhyC K n x ∧ (∀ c ∈ whyCl, n ∈ c.1 → c.2 = x) ∧ ∃ c ∈ whyCl, n ∈ c.1)
    (h_law_feed : FOk P w K mg base 1 "_law_feed" ["_law_script"] (spFeed K)) (h_law_take : FOk P w K mg base 1 "_law_take" ["_law_feed_here", "_law_many"] spTakeA)
    (h_law_drawn : FOk P w K mg base 5 "_law_drawn" ["_law_feed_here", "_law_many", "_law_degree", "_law_size"] (spDrawn K)) (h_law_number : FOk P w K mg base 3 "_law_number" ["_law_feed_here", "_law_size"] spNumber) (h_law_same : FOk P w K mg base 5 "_law_same" ["_law_found", "_law_due"] (spSame K 5))
    (h_law_poly : FOk P w K mg base 6 "_law_poly" ["_law_many", "_law_one"] (spLawPoly K)) (h_law_small : FOk P w K mg base 3 "_law_small" ["_law_feed_here"] (spSmall K)) (h_law_value : FOk P w K mg base 4 "_law_value" ["_law_one", "_law_point"] (spLawValue K))
    (C_Poly : Cls K (ga K "Poly")) (M_Poly_value : Meth K (ga K "Poly") "value" (fAd K ("Poly", some "value"))) (h_Poly_value : MOk (L2.CX P w) P w K mg base 5 (fAd K ("Poly", some "value")) ["self", "point"] (spPolyValue K))
    (m_range : mg "range" = none) (m_len : mg "len" = none) (m_list : mg "list" = none) (m_tuple : mg "tuple" = none) :
    FnOk P w K mg base CX0 9 (ga K "law") fd ["_law_script"] (spLaw K (cT K ("law", none)).2) := by
  refine okC F sc_law (fun vs H Q E h => ?_) (fun A outer s H vs Q E hr h => ?_)
  · obtain ⟨_, _, rfl, _⟩ := h
    rfl
  · obtain ⟨a, ns, rfl, hs, hl, hP, hq⟩ := h
    refine ⟨_, (pss_cons 
    (ps_set (i := 1) sc_law.nd rfl (Or.inr rfl) (pe_callF h_law_feed (hr.mono (by first | decide | omega)) (pa_cons (pv 0) pa_nil))) (pss_cons 
    (ps_for PassesOwn.never rfl (pi_range1 (by rfl) m_range (pa_cons pe_int pa_nil)) (pg_name (i := 2) sc_law.nd rfl (Or.inl rfl)) (pss_cons 
      (ps_set (i := 3) sc_law.nd rfl (Or.inl rfl) (pe_callF h_law_take (hr.mono (by first | decide | omega)) (pa_cons (pv 1) (pa_cons pe_int pa_nil)))) (pss_cons 
      (ps_set (i := 4) sc_law.nd rfl (Or.inl rfl) (pe_callF h_law_drawn (hr.mono (by first | decide | omega)) (pa_cons (pv 1) (pa_cons (pv 3) (pa_cons pe_int (pa_cons pe_int pa_nil)))))) (pss_cons 
      (ps_set (i := 5) sc_law.nd rfl (Or.inr rfl) (pe_callF h_law_poly (hr.mono (by first | decide | omega)) (pa_cons (pv 3) (pa_cons (pv 4) pa_nil)))) (pss_cons 
      (ps_asg (pe_lc (own := [("_law_k", 7)]) (g := (gName 7)) (tt := tYes) (by rfl) sc_law.nd (pi_range1 (by rfl) m_range (pa_cons (pv 3) pa_nil)) (blkOk_by (own := [("_law_k", 7)]) (N := n_law) (sc := defScope s_law) (by decide +kernel)) (fun _ _ _ _ _ => (pg_name (i := 7) sc_law.nd rfl (Or.inl rfl))) (fun _ _ _ _ _ => pts_nil) (fun _ _ _ _ _ => (pe_ifExp (pt_cmpR op_eq (pe_callF h_law_take (hr.mono (by first | decide | omega)) (pa_cons (pv 1) (pa_cons pe_int pa_nil))) pe_int (nomark _)) (pe_callF h_law_small (hr.mono (by first | decide | omega)) (pa_cons (pv 1) pa_nil)) (pe_callF h_law_number (hr.mono (by first | decide | omega)) (pa_cons (pv 1) (pa_cons pe_int pa_nil)))))) (pg_name (i := 6) sc_law.nd rfl (Or.inr rfl))) (pss_cons 
      (ps_par (i := 8) (j := 9) (by rfl) sc_law.nd rfl rfl (by decide) rfl rfl (pa_cons (pe_callTy call_list_of (by rfl) m_list (by decide +kernel) (pa_cons (pv 6) pa_nil)) (pa_cons (pe_callF h_law_value (hr.mono (by first | decide | omega)) (pa_cons (pv 4) (pa_cons (pv 6) pa_nil))) pa_nil)) (by rfl)) (pss_cons 
      (ps_if (PW.pt (pw_or (pt_not (pt_val (pe_callF h_law_same (hr.mono (by first | decide | omega)) (pa_cons (pe_lstA (pa_cons (pe_methM (pv 5) C_Poly M_Poly_value h_Poly_value passL (hr.mono (by first | decide | omega)) (pa_cons (pv 6) pa_nil)) (pa_cons (pe_methM (pv 5) C_Poly M_Poly_value h_Poly_value passL (hr.mono (by first | decide | omega)) (pa_cons (pe_callTy call_tuple_of (by rfl) m_tuple (by decide +kernel) (pa_cons (pv 6) pa_nil)) pa_nil)) pa_nil))) (pa_cons (pe_lstA (pa_cons (pv 9) (pa_cons (pv 9) pa_nil))) pa_nil))))) (pw_or1 (pt_cmpR (op_neD hr.units) (pv 6) (pv 8) (nomark _))))) (pss_one 
        (ps_ret pe_bl)) pss_nil) (pss_cons 
      (ps_set (i := 10) sc_law.nd rfl (Or.inl rfl) (pe_lstA (pa_cons (pe_lam (T := lawT K) (d := lam_law_0) TB rfl (List.Mem.head _) (fun p hp _ => congrArg Prod.snd (List.mem_singleton.mp hp)) (lamS2_by (N := n_law) (sc := defScope s_law) (by decide +kernel)) rfl) pa_nil))) (pss_cut 
      (ps_if (pt_cmpR op_gt (pv 3) pe_int (nomark _)) (pss_one 
        (ps_expr (pe_bm PySem.F.plainAttrs_list PySem.F.slot_list_append PySem.F.type_list_append mt_append (pv 10) (pa_cons (pe_lam (T := lawT K) (d := lam_law_1) TB rfl (List.Mem.head _) (fun p hp _ => congrArg Prod.snd (List.mem_singleton.mp hp)) (lamS2_by (N := n_law) (sc := defScope s_law) (by decide +kernel)) rfl) pa_nil)))) pss_nil) (pss_one 
      (ps_if (pt_cmpR (op_neD hr.units) (pe_lcI (own := [("_law_ask", 11)]) (g := (gName 11)) (tt := tYes) (te := fun σ => tLamV _ _ (TWhy K why1) 11 σ) (by rfl) sc_law.nd (pi_list (pv 10)) (blkOk_by (own := [("_law_ask", 11)]) (N := n_law) (sc := defScope s_law) (by decide +kernel)) (fun _ _ _ _ _ => (pg_name (i := 11) sc_law.nd rfl (Or.inl rfl))) (fun _ _ _ _ _ => pts_nil) (fun s H C cl fp pins σ B => pe_whyK (k := 6) B D_why gE hR hr (famC (d := lam_law_0) (lamS2_by (N := n_law) (sc := defScope s_law) (by decide +kernel)) (fun _ _ _ _ _ => rfl) (fun A outer s H E f c hr2 => (pe_methM (pv 5) C_Poly M_Poly_value h_Poly_value pass_lam (hr2.mono (by first | decide | omega)) (pa_cons (pe_op op_cat (pv 6) (pe_lstA (pa_cons (pe_tupA (pa_cons pe_int (pa_cons pe_int pa_nil))) pa_nil))) pa_nil))) (famC (d := lam_law_1) (lamS2_by (N := n_law) (sc := defScope s_law) (by decide +kernel)) (fun _ _ _ _ _ => rfl) (fun A outer s H E f c hr2 => (pe_methM (pv 5) C_Poly M_Poly_value h_Poly_value pass_lam (hr2.mono (by first | decide | omega)) (pa_cons (pe_slice (r := rSlL K) sl_list (pv 6) (po_some pe_int) po_none) pa_nil))) famN)) (pv 11))) (pe_op op_rep (pe_lstA (pa_cons (pe_tupA (pa_cons pe_str (pa_cons (pv 3) pa_nil))) pa_nil)) (pe_callB call_len_seq (by rfl) m_len (by decide +kernel) (pa_cons (pv 10) pa_nil))) (nomark _)) (pss_one 
        (ps_ret pe_bl)) pss_nil))))))))))) (pss_one 
    (ps_ret pe_bl)))), ?_⟩
    refine ⟨_, rfl, a, ns, rfl, hs, hl, fun H1 p c sm hp hc hF => ?_⟩
    have hP1 : H1 (cT K ("law", none)).2 = some (.tbl #[]) := sm _ _ hP
    have ht1 : LamX.Tabs (lawT K) H1 := fun q hq => by
      rw [List.mem_singleton.mp hq]
      exact LamX.TabS.nil hP1
    refine ⟨7, rfl, by decide, by decide, for_range (fun i σ H' => ∃ x2 x3 x4 x5 x6 x7 x8 x9 x10 x11 : Option V, σ = [some (.ref a), some (.ref p), x2, x3, x4, x5, x6, x7, x8, x9, x10, x11] ∧ Feed H' p c ns ∧ LamX.Tabs (lawT K) H') ⟨_, _, _, _, _, _, _, _, _, _, rfl, hF, ht1⟩ (fun i σ H2 _ hp => ?_) (fun σ H2 hp => ?_)⟩
    · obtain ⟨x2, x3, x4, x5, x6, x7, x8, x9, x10, x11, rfl, hF, ht⟩ := hp
      refine ⟨_, rfl, p, c, ns, 5, rfl, hF, by decide, big_of (by decide), fun m Ha a1 b1 na => ?_⟩
      obtain ⟨n, rfl⟩ : ∃ k : Nat, m = k := ⟨m.toNat, by omega⟩
      have hta := na.tabs hF ht
      refine ⟨_, rfl, _, rfl, p, c, ns, n, 6, 5, rfl, na.f, by omega, by decide, by decide, by decide, by decide, fun d Hb P0 hd nb tb db => ?_⟩
      have htb := nb.tabs na.f hta
      have len5 : P0.length ≤ 5 := by
        have := db.len
        omega
      have szP : ∀ t ∈ P0, Sz 60 1800 t.2 := fun t ht => by
        have := db.num t.1
        rw [gt_mem db.nrm.nd ht] at this
        exact this
      have mqP : ∀ t ∈ P0, MidQ t.2 := fun t ht => MidQ.of (OkS.small (by decide) (by decide) (by decide)) (szP t ht)
      refine ⟨_, rfl, _, rfl, n, d, P0, rfl, tb, db.nrm, by omega, by omega, mqP, fun mk Hc hmk sc pm => ?_⟩
      have fc := nb.f.keep sc
      have tc := htb.ext sc
      have dp : d ≠ p := tb.far nb.f
      have mkf : mk ≠ p := by
        obtain ⟨dx, dR, hx, _⟩ := id pm
        obtain ⟨ys, hy⟩ := fc.lst
        exact ne_of hx hy fun z => by cases z
      refine ⟨_, rfl, (n : Int), rfl, by omega, by omega, fun L hL => ?_⟩
      have Lp : L ≠ p := fc.far hL
      have fin : ∀ k H' (ps : List Addr) (xs : List Rat), Pt K H' L ps xs k → k ≤ 10 → Feed H' p c ns → LamX.Tabs (lawT K) H' → (∀ b o, b ≠ p → b ≠ L → Hc b = some o → H' b = some o) → ∀ r H'' x, Nxt p c ns H' H'' → Qt K H'' r x → PSz x →
          ∃ acc, H'' L = some (.lst acc) ∧ acc.length < sizeLine ∧ ∃ (ps : List Addr) (xs : List Rat), Pt K (upd H'' L (.lst (acc ++ [V.ref r]))) L ps xs (k + 1) ∧ Feed (upd H'' L (.lst (acc ++ [V.ref r]))) p c ns ∧ LamX.Tabs (lawT K) (upd H'' L (.lst (acc ++ [V.ref r]))) ∧ ∀ b o, b ≠ p → b ≠ L → Hc b = some o → upd H'' L (.lst (acc ++ [V.ref r])) b = some o := by
        intro k H' ps xs hpt hk hf ht hb r H'' x nx hr hx
        have pt2 : Pt K H'' L ps xs k := ⟨nx.at Lp hpt.l, hpt.p.keep (nx.tk hf).1, hpt.n, hpt.s⟩
        have o2 := hpt.l
        have offs : p ≠ L ∧ c ≠ L := ⟨fun z => Lp z.symm, fun z => by
          obtain ⟨_, _, _, _, h2, _⟩ := fc
          rw [← z, h2] at hL
          cases hL⟩
        refine ⟨_, pt2.l, ?_, ps ++ [r], xs ++ [x], pt2.add hr hx, nx.f.off offs.1 offs.2, ?_, fun b o h1 h2 h3 => ?_⟩
        · rw [List.length_map, hpt.p.1, hpt.n]
          exact CT.sl (k + 1) (by omega)
        · exact Tabs.but (nx.tabs hf ht) pt2.l fun b o hb h => by rw [upd_ne hb]; exact h
        · rw [upd_ne h2]
          exact nx.at h1 (hb b o h1 h2 h3)
      refine lc_range (fun k H' => ∃ (ps : List Addr) (xs : List Rat), Pt K H' L ps xs k ∧ Feed H' p c ns ∧ LamX.Tabs (lawT K) H' ∧ ∀ b o, b ≠ p → b ≠ L → Hc b = some o → H' b = some o) ⟨[], [], ⟨upd_same, ⟨rfl, fun i p e => by cases e⟩, rfl, fun x hx => by cases hx⟩, fc.new hL, tabs_new tc hL, fun b o _ h2 h3 => by rw [upd_ne h2]; exact h3⟩ (fun k H3 hk hp => ?_) (fun H3 hp => ?_)
      · obtain ⟨ps, xs, pt, f3, t3, b3⟩ := hp
        have hk : k < n := by
          rw [Int.toNat_natCast] at hk
          exact hk
        refine ⟨rfl, _, rfl, p, c, ns, 2, rfl, f3, by decide, big_of (by decide), fun b H4 a4 b4 n4 => ⟨rfl, _, rfl, ?_⟩⟩
        by_cases hb : b = 0
        · refine itT (decide_eq_true (congrArg V.int hb)) ⟨_, rfl, p, c, ns, rfl, n4.f, fun r H5 x n5 e5 hx => ?_⟩
          obtain ⟨x1, x2, x3, x4⟩ := small_ok x hx
          exact fin k H3 ps xs pt (by omega) f3 t3 b3 r H5 _ (n4.trans n5) (Qt.ofI e5 x1 x2) (PSz.of x1 x3 x4)
        · refine itF (decide_eq_false fun z => hb (V.int.inj z)) ⟨_, rfl, p, c, ns, 9, rfl, n4.f, by decide, by decide, fun r H5 t u n5 e5 u0 bt bu hg => ?_⟩
          exact fin k H3 ps xs pt (by omega) f3 t3 b3 r H5 _ (n4.trans n5) (Qt.ofI e5 u0 hg) (PSz.of u0 (by simpa using bt) (by simpa using bu))
      · obtain ⟨ps, xs, pt, f3, t3, b3⟩ := hp
        rw [Int.toNat_natCast] at pt
        have tk3 : TK K Hc H3 := fun b ys h => by
          rcases h with (h | ⟨o, h⟩) | h
          · exact .inl (.inl (b3 b _ (fc.tup_ne h) (ne_of_none h hL) h))
          · obtain ⟨zs, hy⟩ := fc.lst
            exact .inl (.inr ⟨o, b3 b _ (ne_of h hy fun z => by cases z) (ne_of_none h hL) h⟩)
          · exact .inr h
        have tb3 : TabAt K H3 d P0 := (tb.same sc).keep (fun o h => b3 d o dp (ne_of_none h hL) h) tk3
        have pm3 : PolyAt K H3 mk n P0 := by
          obtain ⟨zs, hy⟩ := fc.lst
          exact pm.keep (fun _ _ _ z => b3 _ _ (ne_of z hy fun w => by cases w) (ne_of_none z hL) z) (fun _ _ z => b3 _ _ (ne_of z hy fun w => by cases w) (ne_of_none z hL) z) tk3
        have hxn := pt.n
        have vk : VOk P0 xs := VOk.of (D := 60) (n := 1800) (E := 2520) (m := 22680) (d := 6) (M := 22680) (L := 5) (fun t ht => ⟨szP t ht, by have := (db.nrm.ln t ht).1; omega, (db.nrm.ln t ht).2, db.deg _ (List.mem_map_of_mem ht)⟩) (fun x hx => pt.s x hx) (by decide) (by decide) len5 (by decide) (by decide) ⟨by decide +kernel, by decide +kernel, by decide +kernel⟩ (by decide) ⟨by decide +kernel, by decide +kernel, by decide +kernel⟩
        have he : ∀ t ∈ P0, ∀ e ∈ t.1, e ≤ 1000000 := fun t ht e he => by
          have h1 := db.deg _ (List.mem_map_of_mem ht)
          have h2 : ∀ {l : List Int}, (∀ e ∈ l, 0 ≤ e) → ∀ e ∈ l, e ≤ l.sum := fun {l} hl => by
            induction l with
            | nil => intro e h; cases h
            | cons a l ih =>
              intro e h
              rw [List.sum_cons]
              have a0 := hl a List.mem_cons_self
              have hs : 0 ≤ l.sum := sum_nn fun e he => hl e (List.mem_cons_of_mem _ he)
              rcases List.mem_cons.mp h with rfl | h
              · omega
              · have := ih (fun e he => hl e (List.mem_cons_of_mem _ he)) e h
                omega
          have := h2 (db.nrm.ln t ht).2 e he
          omega
        refine ⟨_, rfl, L, _, rfl, .inl (.inl (.of pt.l)), fun lk hlk => ?_⟩
        have s4 := same_new (o := .lst (ps.map V.ref)) hlk
        obtain ⟨H4, eH4⟩ : ∃ H4, H4 = upd H3 lk (.lst (ps.map V.ref)) := ⟨_, rfl⟩
        have ek4 : H4 lk = some (.lst (ps.map V.ref)) := by rw [eH4, upd_same]
        rw [← eH4] at s4 ⊢
        have f4 := f3.keep s4
        have t4 := t3.ext s4
        refine ⟨_, rfl, _, rfl, d, L, n, P0, ps, xs, rfl, tb3.same s4, .inl (.of (s4 _ _ pt.l)), pt.p.keep (TK.same s4), by omega, hxn, db.nrm, vk, by omega, he, fun r5 H5 s5 q5 => ⟨_, _, rfl, ?_⟩⟩
        have S5 := s4.trans s5
        have pt5 := pt.same S5
        have pm5 := pm3.same S5
        have f5 := f3.keep S5
        have t5 := t3.ext S5
        have ek5 := s5 _ _ ek4
        clear eH4
        obtain ⟨dx, dR, hmk, _⟩ := id pm5
        refine ⟨_, rfl, mk, _, _, rfl, hmk, rfl, _, rfl, mk, L, n, P0, ps, xs, rfl, pm5, SqB.l (.inl (.of pt5.l)), pt5.p, by omega, fun hn => absurd hxn hn, fun _ => ⟨db.nrm, vk, by omega, he, fun r6 H6 s6 q6 => ?_⟩⟩
        have pm6 := pm5.same s6
        refine ⟨_, rfl, mk, _, _, rfl, s6 _ _ hmk, rfl, _, rfl, L, _, rfl, .inl ⟨.inl (.of (s6 _ _ pt5.l)), fun lt hlt => ?_⟩⟩
        have s7 := same_new (o := .tup (ps.map V.ref)) hlt
        refine ⟨mk, lt, n, P0, ps, xs, rfl, pm6.same s7, SqB.t (.inl (.inl upd_same)), (pt5.p.keep (TK.same s6)).keep (TK.same s7), by omega, fun hn => absurd hxn hn, fun _ => ⟨db.nrm, vk, by omega, he, fun r8 H8 s8 q8 => ⟨sl 2, fun q1 H9 hq1 s9 e9 => ⟨_, rfl, _, rfl, sl 2, fun q2 H10 hq2 s10 e10 => ?_⟩⟩⟩⟩
        have s68 := s7.trans (s8.trans (s9.trans s10))
        refine ⟨.ref q1, .ref q2, rfl, eqL2 (s10 _ _ e9) e10 ⟨Qt.eqd (q6.keep (TK.same s68)) (q5.keep (TK.same (s6.trans s68))), Qt.eqd (q8.keep (TK.same (s9.trans s10))) (q5.keep (TK.same (s6.trans s68))), trivial⟩, fun H11 s11 => ⟨_, rfl, itF rfl ?_⟩⟩
        have S11 := s6.trans (s68.trans s11)
        have pt11 := pt5.same S11
        refine ⟨_, rfl, _, rfl, enc_frac.lst.rNe (a := xs.map fr) (b := xs.map fr) (.lst (.inl (.of pt11.l)) pt11.p.dps) (.lst (.inl (.of (S11 _ _ ek5))) pt11.p.dps) ⟨_, rfl, ?_⟩⟩
        rw [decide_eq_true rfl]
        refine itF rfl ?_
        have pm11 := pm5.same S11
        have f11 := f5.keep S11
        have t11 := t5.ext S11
        refine ⟨t11, fun f0 H12 e12 t12 n12 l12 => ⟨sl 1, fun la H13 hla s13 e13 => ?_⟩⟩
        have x13 : LamX.ExtN H11 H13 := e12.trans (LamX.ExtN.of s13)
        have A0 : Feed H13 p c ns ∧ PolyAt K H13 mk n P0 ∧ Pt K H13 L ps xs n := ⟨f11.extN x13, pm11.ext x13, ⟨x13 _ _ pt11.l (fun _ z => by cases z), pt11.p.keep (TK.ext x13), pt11.n, pt11.s⟩⟩
        have t13 := t12.ext s13
        have l13 := l12.same s13
        refine ⟨fun σ H' => ∃ (fs : List Addr), σ = [some (.ref a), some (.ref p), some (.int (0 + (i : Int))), some (.int (n : Int)), some (.ref d), some (.ref mk), some (.ref L), x7, some (.ref lk), some (.ref r5), some (.ref la), x11] ∧ As K s p c ns mk n P0 L ps xs la fs H' ∧ LamX.Tabs (lawT K) H', ?_, fun σ Hw hw => ?_⟩
        · refine ⟨_, rfl, _, _, rfl, rfl, _, rfl, ?_⟩
          by_cases n0 : 0 < n
          · refine itT (decide_eq_true (by omega)) ⟨_, rfl, .inl ⟨rfl, _, .inl (.of e13)⟩, t13, fun f1 H14 e14 t14 n14 l14 => ⟨la, _, _, rfl, rfl, e14 _ _ e13 (fun _ z => by cases z), by show 1 < sizeLine; decide, ?_⟩⟩
            have ea := e14 _ _ e13 (fun _ z => by cases z)
            have bu : ∀ b o, b ≠ la → H14 b = some o → upd H14 la (.lst ([V.ref f0] ++ [V.ref f1])) b = some o := fun b o h z => by rw [upd_ne h]; exact z
            have h12l : H12 la = none := hla
            have pla : p ≠ la ∧ c ≠ la := (f11.extN e12).offs hla
            have pt14 : Pt K H14 L ps xs n := ⟨e14 _ _ A0.2.2.l (fun _ z => by cases z), A0.2.2.p.keep (TK.ext e14), A0.2.2.n, A0.2.2.s⟩
            have Lla : L ≠ la := fun z => by
              have := e12 _ _ pt11.l (fun _ z => by cases z)
              rw [z, hla] at this
              cases this
            refine ⟨[f0, f1], rfl, ⟨(A0.1.extN e14).but pla.1 pla.2 bu, (A0.2.1.ext e14).but ea bu, pt14.keep (by rw [upd_ne Lla]) (TK.upd ea (fun _ z => by cases z) (fun _ _ z => by cases z)), upd_same, by rw [if_pos n0]; rfl, fun f z => ?_, fun f z => ?_⟩, Tabs.but t14 ea bu⟩
            · cases z
              exact (l13.ext e14).but ea bu
            · cases z
              exact l14.but ea bu
          · refine itF (decide_eq_false (by omega)) ⟨[f0], rfl, ⟨A0.1, A0.2.1, A0.2.2, e13, by rw [if_neg n0]; rfl, fun f z => by cases z; exact l13, fun f z => by cases z⟩, t13⟩
        · obtain ⟨fs, rfl, as, tw⟩ := hw
          have mmQ : ∀ {l0 : Addr} {ps' : List Addr} {xs' : List Rat} {Hw H5 : Hp} {QQ : VK} {EE : XK}, (∀ x cls d H', (("Mismatch" : Str), x) ∈ why1 → Told K "Mismatch" x (.int n) cls d H' → (x = none → V.int n = .non) → Same Hw H' → EE cls d H') → Same Hw H5 → PolyAt K H5 mk n P0 → SqL K H5 l0 (ps'.map V.ref) → PtsAt K H5 ps' xs' → xs'.length ≠ n → spPolyValue K [.ref mk, .ref l0] H5 QQ EE := by
            intro l0 ps' xs' Hw H5 QQ EE hE s0 hm hl hp hx
            exact ⟨mk, l0, n, P0, ps', xs', rfl, hm, SqB.l hl, hp, by omega, fun _ d' H' hd' s1 e1 => hE (some "wanted") _ _ _ (List.Mem.tail _ (List.Mem.tail _ (List.Mem.head _))) ⟨rfl, d', _, rfl, e1, rfl, fun y e => by cases e; rfl⟩ (fun e => nomatch e) (s0.trans s1), fun z => absurd z hx⟩
          unfold tIfS tTest tOp
          refine (?_ : tLcI _ _ _ _ _ _ _ _)
          refine asked (ts := List.replicate fs.length (("Mismatch" : Str), V.int n)) rfl as.a (by rw [as.z]; split <;> decide) (by rw [List.length_replicate]) (by show 11 < 12; decide) tw (fun j f t hf ht => ?_) (fun Lw ws H' e' t' hl' hw' => ?_)
          · have et : t = (("Mismatch" : Str), V.int n) := by
              rw [List.getElem?_replicate] at ht
              split at ht
              · exact (Option.some.inj ht).symm
              · cases ht
            rw [et]
            have hj := (List.getElem?_eq_some_iff.mp hf).1
            refine ⟨okT_of (by decide +kernel) rfl, ?_⟩
            match j, hf with
            | 0, hf =>
              refine ⟨_, List.Mem.head _, as.f0 f hf, fun Hw QQ EE e1 t1 hE _ => ?_⟩
              have A1 := as.ext e1
              obtain ⟨dx, dR, hmk, _⟩ := id A1.m
              refine ⟨_, rfl, mk, _, _, rfl, hmk, rfl, _, rfl, sl 2, fun z H5 _ s5 e5 => ⟨sl 1, fun lz H6 _ s6 e6 => ⟨L, lz, _, _, rfl, rfl, (s5.trans s6) _ _ A1.l.l, e6, ?_, fun l3 hl3 => ?_⟩⟩⟩
              · rw [List.length_map, A1.l.p.1, hxn]
                exact CT.sl (n + 1) (by omega)
              · have s7 := same_new (o := .lst (ps.map V.ref ++ [V.ref z])) hl3
                have S7 := s5.trans (s6.trans s7)
                refine mmQ (ps' := ps ++ [z]) (xs' := xs ++ [0]) hE S7 (A1.m.same S7) (.inl (.of (by rw [List.map_append]; exact upd_same))) ((A1.l.p.keep (TK.same S7)).add (Qt.zero (.inl (.inl ((s6.trans s7) _ _ e5))))) ?_
                rw [List.length_append, hxn]
                show n + 1 ≠ n
                omega
            | 1, hf =>
              refine ⟨_, List.Mem.tail _ (List.Mem.head _), as.f1 f hf, fun Hw QQ EE e1 t1 hE _ => ?_⟩
              have A1 := as.ext e1
              obtain ⟨dx, dR, hmk, _⟩ := id A1.m
              have hn0 : 0 < n := by
                have := as.z
                split at this
                · assumption
                · omega
              refine ⟨_, rfl, mk, _, _, rfl, hmk, rfl, _, rfl, read_pa ⟨1, rfl, read_np ⟨L, _, rfl, .inl (.of A1.l.l), fun l3 hl3 => ?_⟩⟩⟩
              have s7 := same_new (o := .lst (cutV (ps.map V.ref) (some 1) none)) hl3
              refine mmQ (ps' := ps.drop 1) (xs' := xs.drop 1) hE s7 (A1.m.same s7) (.inl (.of (by rw [upd_same, List.map_drop]; exact congrArg (fun z => some (HO.lst z)) (cutV_drop _ 1)))) (A1.l.p.keep (TK.same s7)).tail ?_
              rw [List.length_drop, hxn]
              omega
            | j + 2, hf =>
              have := as.z
              split at this <;> omega
          · have A1 := as.ext e'
            refine ⟨_, rfl, sl 2, fun t1 H5 _ s5 e5 => ⟨sl 1, fun l1 H6 _ s6 e6 => ⟨_, rfl, la, _, rfl, .inl (.inl (.of ((s5.trans s6) _ _ A1.a))), l1, _, _, rfl, rfl, e6, by omega, ?_, ?_, fun l2 hl2 => ?_⟩⟩⟩
            · rw [List.length_map, as.z]
              split <;> decide
            · rw [List.length_map, as.z, Int.toNat_natCast]
              exact CT.sl _ (by show 1 * _ ≤ _; split <;> omega)
            · have s7 := same_new (o := .lst (List.replicate (((fs.map V.ref).length : Int)).toNat [V.ref t1]).flatten) hl2
              have S7 := s5.trans (s6.trans s7)
              have e7 : upd H6 l2 (.lst (List.replicate (((fs.map V.ref).length : Int)).toNat [V.ref t1]).flatten) l2 = some (.lst ((List.replicate fs.length t1).map V.ref)) := by
                rw [upd_same, rep_refs, Int.toNat_natCast, List.length_map]
              refine ne_tolds (ts := List.replicate fs.length (("Mismatch" : Str), V.int n)) (as := ws) (bs := List.replicate fs.length t1) (.inl (.of (S7 _ _ hl'))) (.inl (.of e7)) (hw'.same S7) (ToldL.rep (.inl (.of ((s6.trans s7) _ _ e5))) (okT_of (by decide +kernel) rfl) _) ⟨_, rfl, itF rfl ?_⟩
              exact ⟨_, _, _, _, _, _, _, _, _, _, rfl, A1.f.keep S7, t'.ext S7⟩
    · obtain ⟨x2, x3, x4, x5, x6, x7, x8, x9, x10, x11, rfl, hF, ht⟩ := hp
      exact hq _
end

/-! ### the end -/
theorem law_at {K : PySem.W.Frag} {w : World} {mg : Str → Option Value} {f : Addr} {h : Heap} (KX : K.In h) (G : h.Ns mainGlobals mg) (hmg : mg "law" = some (.ref f)) (c : SaysW fa fn tf ex fs vs h K) : LamX.LawAtS PySem.Challenge.rw_copytail_k07_values_at_points w K CX0 9 63 "_law_script" mg f h := by
  have D_wall : Dn K mg "_wall" s_wall [] := ⟨c.d.def_ 0 (d := dd_wall) rfl, glo_ok KX G (c.d.fact 0 (f := .glo "_wall") rfl)⟩
  have D_greatest_common : Dn K mg "greatest_common" s_greatest_common [] := ⟨c.d.def_ 1 (d := dd_greatest_common) rfl, glo_ok KX G (c.d.fact 1 (f := .glo "greatest_common") rfl)⟩
  have D_ratio : Dn K mg "ratio" s_ratio [.int 1] := ⟨c.d.def_ 2 (d := dd_ratio) rfl, glo_ok KX G (c.d.fact 2 (f := .glo "ratio") rfl)⟩
  have D_is_ratio : Dn K mg "is_ratio" s_is_ratio [] := ⟨c.d.def_ 3 (d := dd_is_ratio) rfl, glo_ok KX G (c.d.fact 3 (f := .glo "is_ratio") rfl)⟩
  have D_add : Dn K mg "add" s_add [] := ⟨c.d.def_ 4 (d := dd_add) rfl, glo_ok KX G (c.d.fact 4 (f := .glo "add") rfl)⟩
  have D_negated : Dn K mg "negated" s_negated [] := ⟨c.d.def_ 5 (d := dd_negated) rfl, glo_ok KX G (c.d.fact 5 (f := .glo "negated") rfl)⟩
  have D_multiply : Dn K mg "multiply" s_multiply [] := ⟨c.d.def_ 6 (d := dd_multiply) rfl, glo_ok KX G (c.d.fact 6 (f := .glo "multiply") rfl)⟩
  have D_ratio_text : Dn K mg "ratio_text" s_ratio_text [] := ⟨c.d.def_ 7 (d := dd_ratio_text) rfl, glo_ok KX G (c.d.fact 7 (f := .glo "ratio_text") rfl)⟩
  have D_order_key : Dn K mg "order_key" s_order_key [] := ⟨c.d.def_ 8 (d := dd_order_key) rfl, glo_ok KX G (c.d.fact 8 (f := .glo "order_key") rfl)⟩
  have D_summed_tables : Dn K mg "summed_tables" s_summed_tables [] := ⟨c.d.def_ 9 (d := dd_summed_tables) rfl, glo_ok KX G (c.d.fact 9 (f := .glo "summed_tables") rfl)⟩
  have D_shifted_table : Dn K mg "shifted_table" s_shifted_table [] := ⟨c.d.def_ 10 (d := dd_shifted_table) rfl, glo_ok KX G (c.d.fact 10 (f := .glo "shifted_table") rfl)⟩
  have D_multiplied_tables : Dn K mg "multiplied_tables" s_multiplied_tables [] := ⟨c.d.def_ 11 (d := dd_multiplied_tables) rfl, glo_ok KX G (c.d.fact 11 (f := .glo "multiplied_tables") rfl)⟩
  have D_is_key : Dn K mg "is_key" s_is_key [] := ⟨c.d.def_ 12 (d := dd_is_key) rfl, glo_ok KX G (c.d.fact 12 (f := .glo "is_key") rfl)⟩
  have D_of_table : Dn K mg "of_table" s_of_table [] := ⟨c.d.def_ 13 (d := dd_of_table) rfl, glo_ok KX G (c.d.fact 13 (f := .glo "of_table") rfl)⟩
  have D_term_text : Dn K mg "term_text" s_term_text [] := ⟨c.d.def_ 14 (d := dd_term_text) rfl, glo_ok KX G (c.d.fact 14 (f := .glo "term_text") rfl)⟩
  have D_law_feed : Dn K mg "_law_feed" s_law_feed [] := ⟨c.d.def_ 15 (d := dd_law_feed) rfl, glo_ok KX G (c.d.fact 15 (f := .glo "_law_feed") rfl)⟩
  have D_law_take : Dn K mg "_law_take" s_law_take [] := ⟨c.d.def_ 16 (d := dd_law_take) rfl, glo_ok KX G (c.d.fact 16 (f := .glo "_law_take") rfl)⟩
  have D_law_gcd : Dn K mg "_law_gcd" s_law_gcd [] := ⟨c.d.def_ 17 (d := dd_law_gcd) rfl, glo_ok KX G (c.d.fact 17 (f := .glo "_law_gcd") rfl)⟩
  have D_law_low : Dn K mg "_law_low" s_law_low [] := ⟨c.d.def_ 18 (d := dd_law_low) rfl, glo_ok KX G (c.d.fact 18 (f := .glo "_law_low") rfl)⟩
  have D_law_plus : Dn K mg "_law_plus" s_law_plus [] := ⟨c.d.def_ 19 (d := dd_law_plus) rfl, glo_ok KX G (c.d.fact 19 (f := .glo "_law_plus") rfl)⟩
  have D_law_put_term : Dn K mg "_law_put_term" s_law_put_term [] := ⟨c.d.def_ 20 (d := dd_law_put_term) rfl, glo_ok KX G (c.d.fact 20 (f := .glo "_law_put_term") rfl)⟩
  have D_law_number : Dn K mg "_law_number" s_law_number [] := ⟨c.d.def_ 21 (d := dd_law_number) rfl, glo_ok KX G (c.d.fact 21 (f := .glo "_law_number") rfl)⟩
  have D_law_drawn : Dn K mg "_law_drawn" s_law_drawn [] := ⟨c.d.def_ 22 (d := dd_law_drawn) rfl, glo_ok KX G (c.d.fact 22 (f := .glo "_law_drawn") rfl)⟩
  have D_law_poly : Dn K mg "_law_poly" s_law_poly [] := ⟨c.d.def_ 23 (d := dd_law_poly) rfl, glo_ok KX G (c.d.fact 23 (f := .glo "_law_poly") rfl)⟩
  have D_law_pick : Dn K mg "_law_pick" s_law_pick [] := ⟨c.d.def_ 24 (d := dd_law_pick) rfl, glo_ok KX G (c.d.fact 24 (f := .glo "_law_pick") rfl)⟩
  have D_law_small : Dn K mg "_law_small" s_law_small [] := ⟨c.d.def_ 25 (d := dd_law_small) rfl, glo_ok KX G (c.d.fact 25 (f := .glo "_law_small") rfl)⟩
  have D_law_by : Dn K mg "_law_by" s_law_by [] := ⟨c.d.def_ 26 (d := dd_law_by) rfl, glo_ok KX G (c.d.fact 26 (f := .glo "_law_by") rfl)⟩
  have D_law_value : Dn K mg "_law_value" s_law_value [] := ⟨c.d.def_ 27 (d := dd_law_value) rfl, glo_ok KX G (c.d.fact 27 (f := .glo "_law_value") rfl)⟩
  have D_law_same : Dn K mg "_law_same" s_law_same [] := ⟨c.d.def_ 28 (d := dd_law_same) rfl, glo_ok KX G (c.d.fact 28 (f := .glo "_law_same") rfl)⟩
  have D_law_why : Dn K mg "_law_why" s_law_why [] := ⟨c.d.def_ 29 (d := dd_law_why) rfl, glo_ok KX G (c.d.fact 29 (f := .glo "_law_why") rfl)⟩
  have D_law : Dn K mg "law" s_law [] := ⟨c.d.def_ 30 (d := dd_law) rfl, glo_ok KX G (c.d.fact 30 (f := .glo "law") rfl)⟩
  have D_Poly_init : Dm K (fAd K ("Poly", some "__init__")) "__init__" "Poly.__init__" s_Poly_init [] := ⟨c.d.def_ 31 (d := dd_Poly_init) rfl⟩
  have D_Poly_number : Dm K (He5.wf K (ga K "Poly") "staticmethod" "number") "number" "Poly.number" s_Poly_number [] := ⟨c.d.def_ 32 (d := dd_Poly_number) rfl⟩
  have D_Poly_unknown : Dm K (He5.wf K (ga K "Poly") "staticmethod" "unknown") "unknown" "Poly.unknown" s_Poly_unknown [] := ⟨c.d.def_ 33 (d := dd_Poly_unknown) rfl⟩
  have D_Poly_many : Dm K (He5.wf K (ga K "Poly") "property" "many") "many" "Poly.many" s_Poly_many [] := ⟨c.d.def_ 34 (d := dd_Poly_many) rfl⟩
  have D_Poly_degree : Dm K (He5.wf K (ga K "Poly") "property" "degree") "degree" "Poly.degree" s_Poly_degree [] := ⟨c.d.def_ 35 (d := dd_Poly_degree) rfl⟩
  have D_Poly_need_like : Dm K (fAd K ("Poly", some "need_like")) "need_like" "Poly.need_like" s_Poly_need_like [] := ⟨c.d.def_ 36 (d := dd_Poly_need_like) rfl⟩
  have M_Poly_need_like : Meth K (ga K "Poly") "need_like" (fAd K ("Poly", some "need_like")) := meth_ok (c.d.fact 154 (f := .meth "Poly" "need_like") rfl)
  have D_Poly_add : Dm K (fAd K ("Poly", some "__add__")) "__add__" "Poly.__add__" s_Poly_add [] := ⟨c.d.def_ 37 (d := dd_Poly_add) rfl⟩
  have M_Poly_add : Meth K (ga K "Poly") "__add__" (fAd K ("Poly", some "__add__")) := meth_ok (c.d.fact 155 (f := .meth "Poly" "__add__") rfl)
  have D_Poly_neg : Dm K (fAd K ("Poly", some "__neg__")) "__neg__" "Poly.__neg__" s_Poly_neg [] := ⟨c.d.def_ 38 (d := dd_Poly_neg) rfl⟩
  have M_Poly_neg : Meth K (ga K "Poly") "__neg__" (fAd K ("Poly", some "__neg__")) := meth_ok (c.d.fact 156 (f := .meth "Poly" "__neg__") rfl)
  have D_Poly_sub : Dm K (fAd K ("Poly", some "__sub__")) "__sub__" "Poly.__sub__" s_Poly_sub [] := ⟨c.d.def_ 39 (d := dd_Poly_sub) rfl⟩
  have M_Poly_sub : Meth K (ga K "Poly") "__sub__" (fAd K ("Poly", some "__sub__")) := meth_ok (c.d.fact 157 (f := .meth "Poly" "__sub__") rfl)
  have D_Poly_mul : Dm K (fAd K ("Poly", some "__mul__")) "__mul__" "Poly.__mul__" s_Poly_mul [] := ⟨c.d.def_ 40 (d := dd_Poly_mul) rfl⟩
  have M_Poly_mul : Meth K (ga K "Poly") "__mul__" (fAd K ("Poly", some "__mul__")) := meth_ok (c.d.fact 158 (f := .meth "Poly" "__mul__") rfl)
  have D_Poly_eq : Dm K (fAd K ("Poly", some "__eq__")) "__eq__" "Poly.__eq__" s_Poly_eq [] := ⟨c.d.def_ 41 (d := dd_Poly_eq) rfl⟩
  have M_Poly_eq : Meth K (ga K "Poly") "__eq__" (fAd K ("Poly", some "__eq__")) := meth_ok (c.d.fact 159 (f := .meth "Poly" "__eq__") rfl)
  have D_Poly_bool : Dm K (fAd K ("Poly", some "__bool__")) "__bool__" "Poly.__bool__" s_Poly_bool [] := ⟨c.d.def_ 42 (d := dd_Poly_bool) rfl⟩
  have M_Poly_bool : Meth K (ga K "Poly") "__bool__" (fAd K ("Poly", some "__bool__")) := meth_ok (c.d.fact 160 (f := .meth "Poly" "__bool__") rfl)
  have D_Poly_len : Dm K (fAd K ("Poly", some "__len__")) "__len__" "Poly.__len__" s_Poly_len [] := ⟨c.d.def_ 43 (d := dd_Poly_len) rfl⟩
  have M_Poly_len : Meth K (ga K "Poly") "__len__" (fAd K ("Poly", some "__len__")) := meth_ok (c.d.fact 161 (f := .meth "Poly" "__len__") rfl)
  have D_Poly_repr : Dm K (fAd K ("Poly", some "__repr__")) "__repr__" "Poly.__repr__" s_Poly_repr [] := ⟨c.d.def_ 44 (d := dd_Poly_repr) rfl⟩
  have M_Poly_repr : Meth K (ga K "Poly") "__repr__" (fAd K ("Poly", some "__repr__")) := meth_ok (c.d.fact 162 (f := .meth "Poly" "__repr__") rfl)
  have D_Poly_terms : Dm K (fAd K ("Poly", some "terms")) "terms" "Poly.terms" s_Poly_terms [] := ⟨c.d.def_ 45 (d := dd_Poly_terms) rfl⟩
  have M_Poly_terms : Meth K (ga K "Poly") "terms" (fAd K ("Poly", some "terms")) := meth_ok (c.d.fact 163 (f := .meth "Poly" "terms") rfl)
  have D_Poly_times : Dm K (fAd K ("Poly", some "times")) "times" "Poly.times" s_Poly_times [] := ⟨c.d.def_ 46 (d := dd_Poly_times) rfl⟩
  have M_Poly_times : Meth K (ga K "Poly") "times" (fAd K ("Poly", some "times")) := meth_ok (c.d.fact 164 (f := .meth "Poly" "times") rfl)
  have D_Poly_value : Dm K (fAd K ("Poly", some "value")) "value" "Poly.value" s_Poly_value [] := ⟨c.d.def_ 47 (d := dd_Poly_value) rfl⟩
  have M_Poly_value : Meth K (ga K "Poly") "value" (fAd K ("Poly", some "value")) := meth_ok (c.d.fact 165 (f := .meth "Poly" "value") rfl)
  have D_Poly_text : Dm K (fAd K ("Poly", some "text")) "text" "Poly.text" s_Poly_text [] := ⟨c.d.def_ 48 (d := dd_Poly_text) rfl⟩
  have M_Poly_text : Meth K (ga K "Poly") "text" (fAd K ("Poly", some "text")) := meth_ok (c.d.fact 166 (f := .meth "Poly" "text") rfl)
  have g_Poly : mg "Poly" = some (.ref (ga K "Poly")) := glo_ok KX G (c.d.fact 150 (f := .glo "Poly") rfl)
  have C_Poly : Cls K (ga K "Poly") := cls_ok (c.d.fact 151 (f := .cls "Poly") rfl)
  have K_Poly : Mk K (ga K "Poly") (fAd K ("Poly", some "__init__")) := mkr_ok (c.d.fact 152 (f := .mkr "Poly") rfl)
  have nf_Poly_width : NoAttr K (ga K "Poly") "width" := noat_ok (c.d.fact 167 (f := .noat "Poly" "width") rfl)
  have nf_Poly_table : NoAttr K (ga K "Poly") "table" := noat_ok (c.d.fact 168 (f := .noat "Poly" "table") rfl)
  have m_ValueError : mg "ValueError" = none := free_ok KX G (c.d.fact 55 (f := .free "ValueError") rfl)
  have m_LookupError : mg "LookupError" = none := free_ok KX G (c.d.fact 56 (f := .free "LookupError") rfl)
  have m_IndexError : mg "IndexError" = none := free_ok KX G (c.d.fact 57 (f := .free "IndexError") rfl)
  have m_staticmethod : mg "staticmethod" = none := free_ok KX G (c.d.fact 58 (f := .free "staticmethod") rfl)
  have m_property : mg "property" = none := free_ok KX G (c.d.fact 59 (f := .free "property") rfl)
  have m_zip : mg "zip" = none := free_ok KX G (c.d.fact 60 (f := .free "zip") rfl)
  have m_list : mg "list" = none := free_ok KX G (c.d.fact 61 (f := .free "list") rfl)
  have m_range : mg "range" = none := free_ok KX G (c.d.fact 62 (f := .free "range") rfl)
  have m_isinstance : mg "isinstance" = none := free_ok KX G (c.d.fact 63 (f := .free "isinstance") rfl)
  have m_abs : mg "abs" = none := free_ok KX G (c.d.fact 64 (f := .free "abs") rfl)
  have m_str : mg "str" = none := free_ok KX G (c.d.fact 65 (f := .free "str") rfl)
  have m_sum : mg "sum" = none := free_ok KX G (c.d.fact 66 (f := .free "sum") rfl)
  have m_tuple : mg "tuple" = none := free_ok KX G (c.d.fact 67 (f := .free "tuple") rfl)
  have m_all : mg "all" = none := free_ok KX G (c.d.fact 68 (f := .free "all") rfl)
  have m_enumerate : mg "enumerate" = none := free_ok KX G (c.d.fact 69 (f := .free "enumerate") rfl)
  have m_max : mg "max" = none := free_ok KX G (c.d.fact 70 (f := .free "max") rfl)
  have m_len : mg "len" = none := free_ok KX G (c.d.fact 71 (f := .free "len") rfl)
  have m_int : mg "int" = none := free_ok KX G (c.d.fact 72 (f := .free "int") rfl)
  have m_bool : mg "bool" = none := free_ok KX G (c.d.fact 73 (f := .free "bool") rfl)
  have m_super : mg "super" = none := free_ok KX G (c.d.fact 74 (f := .free "super") rfl)
  have m_sorted : mg "sorted" = none := free_ok KX G (c.d.fact 75 (f := .free "sorted") rfl)
  have gE : ∀ m ∈ whyNames, mg m = some (.ref (ga K m)) := (List.forall_mem_cons.mpr ⟨glo_ok KX G (c.d.fact 31 (f := .glo "InvalidRatio") rfl), (List.forall_mem_cons.mpr ⟨glo_ok KX G (c.d.fact 44 (f := .glo "InvalidDegree") rfl), (List.forall_mem_cons.mpr ⟨glo_ok KX G (c.d.fact 50 (f := .glo "InvalidLimit") rfl), (List.forall_mem_cons.mpr ⟨glo_ok KX G (c.d.fact 32 (f := .glo "InvalidTerm") rfl), (List.forall_mem_cons.mpr ⟨glo_ok KX G (c.d.fact 35 (f := .glo "ParseError") rfl), (List.forall_mem_cons.mpr ⟨glo_ok KX G (c.d.fact 36 (f := .glo "InvalidLetters") rfl), (List.forall_mem_cons.mpr ⟨glo_ok KX G (c.d.fact 37 (f := .glo "InvalidBegin") rfl), (List.forall_mem_cons.mpr ⟨glo_ok KX G (c.d.fact 38 (f := .glo "InvalidMode") rfl), (List.forall_mem_cons.mpr ⟨glo_ok KX G (c.d.fact 39 (f := .glo "InvalidGuard") rfl), (List.forall_mem_cons.mpr ⟨glo_ok KX G (c.d.fact 40 (f := .glo "UnknownLetter") rfl), (List.forall_mem_cons.mpr ⟨glo_ok KX G (c.d.fact 42 (f := .glo "InvalidRecoding") rfl), (List.forall_mem_cons.mpr ⟨glo_ok KX G (c.d.fact 33 (f := .glo "Mismatch") rfl), (List.forall_mem_cons.mpr ⟨glo_ok KX G (c.d.fact 46 (f := .glo "InvalidName") rfl), (List.forall_mem_cons.mpr ⟨glo_ok KX G (c.d.fact 47 (f := .glo "DuplicateName") rfl), (List.forall_mem_cons.mpr ⟨glo_ok KX G (c.d.fact 48 (f := .glo "WrongSort") rfl), (List.forall_mem_cons.mpr ⟨glo_ok KX G (c.d.fact 53 (f := .glo "UnknownName") rfl), (List.forall_mem_cons.mpr ⟨glo_ok KX G (c.d.fact 49 (f := .glo "CapacityExceeded") rfl), (List.forall_mem_cons.mpr ⟨glo_ok KX G (c.d.fact 51 (f := .glo "InvalidCommand") rfl), (List.forall_mem_cons.mpr ⟨glo_ok KX G (c.d.fact 52 (f := .glo "InUse") rfl), (List.forall_mem_cons.mpr ⟨glo_ok KX G (c.d.fact 45 (f := .glo "Fails") rfl), (List.forall_mem_cons.mpr ⟨glo_ok KX G (c.d.fact 34 (f := .glo "NoLead") rfl), (List.forall_mem_cons.mpr ⟨glo_ok KX G (c.d.fact 41 (f := .glo "LettersDiffer") rfl), (List.forall_mem_cons.mpr ⟨glo_ok KX G (c.d.fact 43 (f := .glo "NoText") rfl), (List.forall_mem_cons.mpr ⟨glo_ok KX G (c.d.fact 54 (f := .glo "NothingLeft") rfl), fun _ z => nomatch z⟩)⟩)⟩)⟩)⟩)⟩)⟩)⟩)⟩)⟩)⟩)⟩)⟩)⟩)⟩)⟩)⟩)⟩)⟩)⟩)⟩)⟩)⟩)⟩)
  have e_InvalidRatio : ErrC K "InvalidRatio" (some "given") "/claim/cut.py" := errB_ok (ba (c.more)).1
  have g_InvalidRatio : mg "InvalidRatio" = some (.ref (ga K "InvalidRatio")) := glo_ok KX G (c.d.fact 31 (f := .glo "InvalidRatio") rfl)
  have w_InvalidRatio : WhyC K "InvalidRatio" (some "given") := whyC_of e_InvalidRatio (List.forall_mem_cons.mpr ⟨exm_at (c.d.fact 76 (f := .exm "InvalidRatio" "InvalidRatio" true) rfl), (List.forall_mem_cons.mpr ⟨exm_at (c.d.fact 89 (f := .exm "InvalidRatio" "InvalidDegree" false) rfl), (List.forall_mem_cons.mpr ⟨exm_at (c.d.fact 95 (f := .exm "InvalidRatio" "InvalidLimit" false) rfl), (List.forall_mem_cons.mpr ⟨exm_at (c.d.fact 77 (f := .exm "InvalidRatio" "InvalidTerm" false) rfl), (List.forall_mem_cons.mpr ⟨exm_at (c.d.fact 80 (f := .exm "InvalidRatio" "ParseError" false) rfl), (List.forall_mem_cons.mpr ⟨exm_at (c.d.fact 81 (f := .exm "InvalidRatio" "InvalidLetters" false) rfl), (List.forall_mem_cons.mpr ⟨exm_at (c.d.fact 82 (f := .exm "InvalidRatio" "InvalidBegin" false) rfl), (List.forall_mem_cons.mpr ⟨exm_at (c.d.fact 83 (f := .exm "InvalidRatio" "InvalidMode" false) rfl), (List.forall_mem_cons.mpr ⟨exm_at (c.d.fact 84 (f := .exm "InvalidRatio" "InvalidGuard" false) rfl), (List.forall_mem_cons.mpr ⟨exm_at (c.d.fact 85 (f := .exm "InvalidRatio" "UnknownLetter" false) rfl), (List.forall_mem_cons.mpr ⟨exm_at (c.d.fact 87 (f := .exm "InvalidRatio" "InvalidRecoding" false) rfl), (List.forall_mem_cons.mpr ⟨exm_at (c.d.fact 78 (f := .exm "InvalidRatio" "Mismatch" false) rfl), (List.forall_mem_cons.mpr ⟨exm_at (c.d.fact 91 (f := .exm "InvalidRatio" "InvalidName" false) rfl), (List.forall_mem_cons.mpr ⟨exm_at (c.d.fact 92 (f := .exm "InvalidRatio" "DuplicateName" false) rfl), (List.forall_mem_cons.mpr ⟨exm_at (c.d.fact 93 (f := .exm "InvalidRatio" "WrongSort" false) rfl), (List.forall_mem_cons.mpr ⟨exm_at (c.d.fact 98 (f := .exm "InvalidRatio" "UnknownName" false) rfl), (List.forall_mem_cons.mpr ⟨exm_at (c.d.fact 94 (f := .exm "InvalidRatio" "CapacityExceeded" false) rfl), (List.forall_mem_cons.mpr ⟨exm_at (c.d.fact 96 (f := .exm "InvalidRatio" "InvalidCommand" false) rfl), (List.forall_mem_cons.mpr ⟨exm_at (c.d.fact 97 (f := .exm "InvalidRatio" "InUse" false) rfl), (List.forall_mem_cons.mpr ⟨exm_at (c.d.fact 90 (f := .exm "InvalidRatio" "Fails" false) rfl), (List.forall_mem_cons.mpr ⟨exm_at (c.d.fact 79 (f := .exm "InvalidRatio" "NoLead" false) rfl), (List.forall_mem_cons.mpr ⟨exm_at (c.d.fact 86 (f := .exm "InvalidRatio" "LettersDiffer" false) rfl), (List.forall_mem_cons.mpr ⟨exm_at (c.d.fact 88 (f := .exm "InvalidRatio" "NoText" false) rfl), (List.forall_mem_cons.mpr ⟨exm_at (c.d.fact 99 (f := .exm "InvalidRatio" "NothingLeft" false) rfl), fun _ z => nomatch z⟩)⟩)⟩)⟩)⟩)⟩)⟩)⟩)⟩)⟩)⟩)⟩)⟩)⟩)⟩)⟩)⟩)⟩)⟩)⟩)⟩)⟩)⟩)⟩)
  have e_InvalidTerm : ErrC K "InvalidTerm" (some "at") "/claim/cut.py" := errB_ok (ba ((ba (c.more)).2)).1
  have g_InvalidTerm : mg "InvalidTerm" = some (.ref (ga K "InvalidTerm")) := glo_ok KX G (c.d.fact 32 (f := .glo "InvalidTerm") rfl)
  have w_InvalidTerm : WhyC K "InvalidTerm" (some "at") := whyC_of e_InvalidTerm (List.forall_mem_cons.mpr ⟨exm_at (c.d.fact 100 (f := .exm "InvalidTerm" "InvalidRatio" false) rfl), (List.forall_mem_cons.mpr ⟨exm_at (c.d.fact 113 (f := .exm "InvalidTerm" "InvalidDegree" false) rfl), (List.forall_mem_cons.mpr ⟨exm_at (c.d.fact 119 (f := .exm "InvalidTerm" "InvalidLimit" false) rfl), (List.forall_mem_cons.mpr ⟨exm_at (c.d.fact 101 (f := .exm "InvalidTerm" "InvalidTerm" true) rfl), (List.forall_mem_cons.mpr ⟨exm_at (c.d.fact 104 (f := .exm "InvalidTerm" "ParseError" false) rfl), (List.forall_mem_cons.mpr ⟨exm_at (c.d.fact 105 (f := .exm "InvalidTerm" "InvalidLetters" false) rfl), (List.forall_mem_cons.mpr ⟨exm_at (c.d.fact 106 (f := .exm "InvalidTerm" "InvalidBegin" false) rfl), (List.forall_mem_cons.mpr ⟨exm_at (c.d.fact 107 (f := .exm "InvalidTerm" "InvalidMode" false) rfl), (List.forall_mem_cons.mpr ⟨exm_at (c.d.fact 108 (f := .exm "InvalidTerm" "InvalidGuard" false) rfl), (List.forall_mem_cons.mpr ⟨exm_at (c.d.fact 109 (f := .exm "InvalidTerm" "UnknownLetter" false) rfl), (List.forall_mem_cons.mpr ⟨exm_at (c.d.fact 111 (f := .exm "InvalidTerm" "InvalidRecoding" false) rfl), (List.forall_mem_cons.mpr ⟨exm_at (c.d.fact 102 (f := .exm "InvalidTerm" "Mismatch" false) rfl), (List.forall_mem_cons.mpr ⟨exm_at (c.d.fact 115 (f := .exm "InvalidTerm" "InvalidName" false) rfl), (List.forall_mem_cons.mpr ⟨exm_at (c.d.fact 116 (f := .exm "InvalidTerm" "DuplicateName" false) rfl), (List.forall_mem_cons.mpr ⟨exm_at (c.d.fact 117 (f := .exm "InvalidTerm" "WrongSort" false) rfl), (List.forall_mem_cons.mpr ⟨exm_at (c.d.fact 122 (f := .exm "InvalidTerm" "UnknownName" false) rfl), (List.forall_mem_cons.mpr ⟨exm_at (c.d.fact 118 (f := .exm "InvalidTerm" "CapacityExceeded" false) rfl), (List.forall_mem_cons.mpr ⟨exm_at (c.d.fact 120 (f := .exm "InvalidTerm" "InvalidCommand" false) rfl), (List.forall_mem_cons.mpr ⟨exm_at (c.d.fact 121 (f := .exm "InvalidTerm" "InUse" false) rfl), (List.forall_mem_cons.mpr ⟨exm_at (c.d.fact 114 (f := .exm "InvalidTerm" "Fails" false) rfl), (List.forall_mem_cons.mpr ⟨exm_at (c.d.fact 103 (f := .exm "InvalidTerm" "NoLead" false) rfl), (List.forall_mem_cons.mpr ⟨exm_at (c.d.fact 110 (f := .exm "InvalidTerm" "LettersDiffer" false) rfl), (List.forall_mem_cons.mpr ⟨exm_at (c.d.fact 112 (f := .exm "InvalidTerm" "NoText" false) rfl), (List.forall_mem_cons.mpr ⟨exm_at (c.d.fact 123 (f := .exm "InvalidTerm" "NothingLeft" false) rfl), fun _ z => nomatch z⟩)⟩)⟩)⟩)⟩)⟩)⟩)⟩)⟩)⟩)⟩)⟩)⟩)⟩)⟩)⟩)⟩)⟩)⟩)⟩)⟩)⟩)⟩)⟩)
  have e_Mismatch : ErrC K "Mismatch" (some "wanted") "/claim/cut.py" := errB_ok (ba ((ba ((ba (c.more)).2)).2)).1
  have g_Mismatch : mg "Mismatch" = some (.ref (ga K "Mismatch")) := glo_ok KX G (c.d.fact 33 (f := .glo "Mismatch") rfl)
  have w_Mismatch : WhyC K "Mismatch" (some "wanted") := whyC_of e_Mismatch (List.forall_mem_cons.mpr ⟨exm_at (c.d.fact 124 (f := .exm "Mismatch" "InvalidRatio" false) rfl), (List.forall_mem_cons.mpr ⟨exm_at (c.d.fact 137 (f := .exm "Mismatch" "InvalidDegree" false) rfl), (List.forall_mem_cons.mpr ⟨exm_at (c.d.fact 143 (f := .exm "Mismatch" "InvalidLimit" false) rfl), (List.forall_mem_cons.mpr ⟨exm_at (c.d.fact 125 (f := .exm "Mismatch" "InvalidTerm" false) rfl), (List.forall_mem_cons.mpr ⟨exm_at (c.d.fact 128 (f := .exm "Mismatch" "ParseError" false) rfl), (List.forall_mem_cons.mpr ⟨exm_at (c.d.fact 129 (f := .exm "Mismatch" "InvalidLetters" false) rfl), (List.forall_mem_cons.mpr ⟨exm_at (c.d.fact 130 (f := .exm "Mismatch" "InvalidBegin" false) rfl), (List.forall_mem_cons.mpr ⟨exm_at (c.d.fact 131 (f := .exm "Mismatch" "InvalidMode" false) rfl), (List.forall_mem_cons.mpr ⟨exm_at (c.d.fact 132 (f := .exm "Mismatch" "InvalidGuard" false) rfl), (List.forall_mem_cons.mpr ⟨exm_at (c.d.fact 133 (f := .exm "Mismatch" "UnknownLetter" false) rfl), (List.forall_mem_cons.mpr ⟨exm_at (c.d.fact 135 (f := .exm "Mismatch" "InvalidRecoding" false) rfl), (List.forall_mem_cons.mpr ⟨exm_at (c.d.fact 126 (f := .exm "Mismatch" "Mismatch" true) rfl), (List.forall_mem_cons.mpr ⟨exm_at (c.d.fact 139 (f := .exm "Mismatch" "InvalidName" false) rfl), (List.forall_mem_cons.mpr ⟨exm_at (c.d.fact 140 (f := .exm "Mismatch" "DuplicateName" false) rfl), (List.forall_mem_cons.mpr ⟨exm_at (c.d.fact 141 (f := .exm "Mismatch" "WrongSort" false) rfl), (List.forall_mem_cons.mpr ⟨exm_at (c.d.fact 146 (f := .exm "Mismatch" "UnknownName" false) rfl), (List.forall_mem_cons.mpr ⟨exm_at (c.d.fact 142 (f := .exm "Mismatch" "CapacityExceeded" false) rfl), (List.forall_mem_cons.mpr ⟨exm_at (c.d.fact 144 (f := .exm "Mismatch" "InvalidCommand" false) rfl), (List.forall_mem_cons.mpr ⟨exm_at (c.d.fact 145 (f := .exm "Mismatch" "InUse" false) rfl), (List.forall_mem_cons.mpr ⟨exm_at (c.d.fact 138 (f := .exm "Mismatch" "Fails" false) rfl), (List.forall_mem_cons.mpr ⟨exm_at (c.d.fact 127 (f := .exm "Mismatch" "NoLead" false) rfl), (List.forall_mem_cons.mpr ⟨exm_at (c.d.fact 134 (f := .exm "Mismatch" "LettersDiffer" false) rfl), (List.forall_mem_cons.mpr ⟨exm_at (c.d.fact 136 (f := .exm "Mismatch" "NoText" false) rfl), (List.forall_mem_cons.mpr ⟨exm_at (c.d.fact 147 (f := .exm "Mismatch" "NothingLeft" false) rfl), fun _ z => nomatch z⟩)⟩)⟩)⟩)⟩)⟩)⟩)⟩)⟩)⟩)⟩)⟩)⟩)⟩)⟩)⟩)⟩)⟩)⟩)⟩)⟩)⟩)⟩)⟩)
  have N_Poly_MOST : ∃ u, ClX.CVal K (ga K "Poly") (.type "type") "MOST" (.int 16) u := conB_ok (ba ((ba ((ba ((ba (c.more)).2)).2)).2)).1
  have B_Poly : ClsF K (ga K "Poly") := clsB_ok (ba ((ba ((ba ((ba ((ba (c.more)).2)).2)).2)).2)).1
  have S_Poly_number : StatF K (ga K "Poly") "number" := statB_ok (ba ((ba ((ba ((ba ((ba ((ba (c.more)).2)).2)).2)).2)).2)).1
  have S_Poly_unknown : StatF K (ga K "Poly") "unknown" := statB_ok (ba ((ba ((ba ((ba ((ba ((ba ((ba (c.more)).2)).2)).2)).2)).2)).2)).1
  have P_Poly_many : PropOf K (ga K "Poly") "many" (ma K (ga K "Poly") "many") (He5.wf K (ga K "Poly") "property" "many") := propB_ok (ba ((ba ((ba ((ba ((ba ((ba ((ba ((ba (c.more)).2)).2)).2)).2)).2)).2)).2)).1
  have P_Poly_degree : PropOf K (ga K "Poly") "degree" (ma K (ga K "Poly") "degree") (He5.wf K (ga K "Poly") "property" "degree") := propB_ok (ba ((ba ((ba ((ba ((ba ((ba ((ba ((ba ((ba (c.more)).2)).2)).2)).2)).2)).2)).2)).2)).1
  have T_ZERO : ∀ H : Hp, SqT K H (ga K "ZERO") ([.int 0, .int 1].map (He.Dv.v K)) := fun H => tupB_ok (ba ((ba ((ba ((ba ((ba ((ba ((ba ((ba ((ba ((ba (c.more)).2)).2)).2)).2)).2)).2)).2)).2)).2)).1 H
  have g_ZERO : mg "ZERO" = some (.ref (ga K "ZERO")) := glo_ok KX G (c.d.fact 148 (f := .glo "ZERO") rfl)
  have T_ONE : ∀ H : Hp, SqT K H (ga K "ONE") ([.int 1, .int 1].map (He.Dv.v K)) := fun H => tupB_ok (ba ((ba ((ba ((ba ((ba ((ba ((ba ((ba ((ba ((ba ((ba (c.more)).2)).2)).2)).2)).2)).2)).2)).2)).2)).2)).1 H
  have g_ONE : mg "ONE" = some (.ref (ga K "ONE")) := glo_ok KX G (c.d.fact 149 (f := .glo "ONE") rfl)
  have hR0 : ∀ q ∈ why1, WhyC K q.1 q.2 ∧ (∀ c ∈ whyCl, q.1 ∈ c.1 → c.2 = q.2) ∧ ∃ c ∈ whyCl, q.1 ∈ c.1 := (List.forall_mem_cons.mpr ⟨⟨w_InvalidRatio, by decide +kernel, by decide +kernel⟩, (List.forall_mem_cons.mpr ⟨⟨w_InvalidTerm, by decide +kernel, by decide +kernel⟩, (List.forall_mem_cons.mpr ⟨⟨w_Mismatch, by decide +kernel, by decide +kernel⟩, fun _ z => nomatch z⟩)⟩)⟩)
  have hR : ∀ n x, (n, x) ∈ why1 → WhyC K n x ∧ (∀ c ∈ whyCl, n ∈ c.1 → c.2 = x) ∧ ∃ c ∈ whyCl, n ∈ c.1 := fun n x z => hR0 (n, x) z
  have e := hmg.symm.trans D_law.g
  cases e
  obtain ⟨fd, F⟩ := D_law.f
  refine ⟨fd, tf.map (cT K), spLaw K (cT K ("law", none)).2, fun p hp => ?_, fun p hp => ?_, fun p hp => ?_, fun s u => F.bindsA (ps := ["_law_script"]) (fun _ _ _ _ _ _ us hl => match us, hl with | [_], _ => rfl) s [u] rfl, fun H a ns hl _ hH hS => ⟨a, ns, rfl, hS, hl, hH _ (List.Mem.head _), fun _ => rfl⟩, fun base KB GB TB => ?_⟩
  · obtain ⟨q, hq, rfl⟩ := List.mem_map.mp hp
    exact c.empty q hq
  · obtain ⟨q, hq, rfl⟩ := List.mem_map.mp hp
    exact c.out q hq
  · obtain ⟨q, hq, rfl⟩ := List.mem_map.mp hp
    exact PySem.W.codeHd_of_K KX (c.hd q hq)
  have x_InvalidRatio := err_fn1 (P := PySem.Challenge.pw_copytail_k07_values_at_points) (w := w) (mg := mg) (base := base) e_InvalidRatio es_InvalidRatio (c.fn 0) (by rfl) (by decide +kernel) m_super
  have x_InvalidTerm := err_fn1 (P := PySem.Challenge.pw_copytail_k07_values_at_points) (w := w) (mg := mg) (base := base) e_InvalidTerm es_InvalidTerm (c.fn 1) (by rfl) (by decide +kernel) m_super
  have x_Mismatch := err_fn1 (P := PySem.Challenge.pw_copytail_k07_values_at_points) (w := w) (mg := mg) (base := base) e_Mismatch es_Mismatch (c.fn 2) (by rfl) (by decide +kernel) m_super
  have TB0 := TB _ (List.Mem.head _)
  have h_law_gcd := ok_law_gcd (P := PySem.Challenge.pw_copytail_k07_values_at_points) (w := w) (K := K) (mg := mg) (base := base) D_law_gcd m_abs m_int
  have h_law_low := ok_law_low (P := PySem.Challenge.pw_copytail_k07_values_at_points) (w := w) (K := K) (mg := mg) (base := base) D_law_low h_law_gcd
  have h_law_feed := ok_law_feed (P := PySem.Challenge.pw_copytail_k07_values_at_points) (w := w) (K := K) (mg := mg) (base := base) D_law_feed m_list m_len m_int
  have h_law_take0 := ok_law_take (P := PySem.Challenge.pw_copytail_k07_values_at_points) (w := w) (K := K) (mg := mg) (base := base) D_law_take m_len m_int
  have h_law_take := h_law_take0.takeA
  have h_law_pick := (ok_law_pick (P := PySem.Challenge.pw_copytail_k07_values_at_points) (w := w) (K := K) (mg := mg) (base := base) D_law_pick h_law_take0 m_len).pickA
  have h_law_same := fun n => ok_law_same (P := PySem.Challenge.pw_copytail_k07_values_at_points) (w := w) (K := K) (mg := mg) (base := base) D_law_same m_isinstance m_bool m_int m_str m_tuple m_list m_len m_all m_zip n
  have h_law_number := ok_law_number (P := PySem.Challenge.pw_copytail_k07_values_at_points) (w := w) (K := K) (mg := mg) (base := base) D_law_number h_law_take h_law_low
  have h_law_plus := (ok_law_plus (P := PySem.Challenge.pw_copytail_k07_values_at_points) (w := w) (K := K) (mg := mg) (base := base) D_law_plus h_law_low).addQ
  have h_law_by := (ok_law_by (P := PySem.Challenge.pw_copytail_k07_values_at_points) (w := w) (K := K) (mg := mg) (base := base) D_law_by h_law_low).mulQ
  have h_law_put_term := ok_law_put_term (P := PySem.Challenge.pw_copytail_k07_values_at_points) (w := w) (K := K) (mg := mg) (base := base) D_law_put_term h_law_plus
  have h_law_drawn := ok_law_drawn (P := PySem.Challenge.pw_copytail_k07_values_at_points) (w := w) (K := K) (mg := mg) (base := base) D_law_drawn m_range m_tuple h_law_take h_law_number h_law_put_term
  have h_greatest_common := ok_greatest_common (P := PySem.Challenge.pw_copytail_k07_values_at_points) (w := w) (K := K) (mg := mg) (base := base) D_greatest_common m_abs
  have h_is_ratio := ok_is_ratio (P := PySem.Challenge.pw_copytail_k07_values_at_points) (w := w) (K := K) (mg := mg) (base := base) D_is_ratio h_greatest_common
  have h_order_key := ok_order_key (P := PySem.Challenge.pw_copytail_k07_values_at_points) (w := w) (K := K) (mg := mg) (base := base) D_order_key m_sum
  have h_is_key := ok_is_key (P := PySem.Challenge.pw_copytail_k07_values_at_points) (w := w) (K := K) (mg := mg) (base := base) D_is_key m_len m_all
  have h_Poly_init := ok_Poly_init (P := PySem.Challenge.pw_copytail_k07_values_at_points) (w := w) (K := K) (mg := mg) (base := base) D_Poly_init m_enumerate C_Poly nf_Poly_width nf_Poly_table e_InvalidTerm x_InvalidTerm g_InvalidTerm h_is_key h_is_ratio
  have h_of_table := ok_of_table (P := PySem.Challenge.pw_copytail_k07_values_at_points) (w := w) (K := K) (mg := mg) (base := base) D_of_table m_list K_Poly g_Poly h_Poly_init
  have h_ratio := ok_ratio (P := PySem.Challenge.pw_copytail_k07_values_at_points) (w := w) (K := K) (mg := mg) (base := base) D_ratio e_InvalidRatio x_InvalidRatio g_InvalidRatio h_greatest_common
  have h_add := (ok_add (P := PySem.Challenge.pw_copytail_k07_values_at_points) (w := w) (K := K) (mg := mg) (base := base) D_add h_ratio).addQ
  have h_multiply := (ok_multiply (P := PySem.Challenge.pw_copytail_k07_values_at_points) (w := w) (K := K) (mg := mg) (base := base) D_multiply h_ratio).mulQ
  have h_Poly_value := ok_Poly_value (P := PySem.Challenge.pw_copytail_k07_values_at_points) (w := w) (K := K) (mg := mg) (base := base) D_Poly_value C_Poly nf_Poly_width nf_Poly_table m_len m_zip m_range h_add h_multiply e_Mismatch x_Mismatch g_Mismatch g_ZERO T_ZERO
  have h_law_poly := ok_law_poly (P := PySem.Challenge.pw_copytail_k07_values_at_points) (w := w) (K := K) (mg := mg) (base := base) D_law_poly K_Poly g_Poly h_Poly_init
  have h_law_small := ok_law_small (P := PySem.Challenge.pw_copytail_k07_values_at_points) (w := w) (K := K) (mg := mg) (base := base) D_law_small h_law_pick
  have h_law_value := ok_law_value (P := PySem.Challenge.pw_copytail_k07_values_at_points) (w := w) (K := K) (mg := mg) (base := base) D_law_value m_range m_len h_law_by h_law_plus
  exact ok_law F TB0 D_law_why gE hR h_law_feed h_law_take h_law_drawn h_law_number (h_law_same _) h_law_poly h_law_small h_law_value C_Poly M_Poly_value h_Poly_value m_range m_len m_list m_tuple
end CT
open PySem PySem.W PySem.Calls PyProof.Rows
theorem PySem.Challenge.cw_copytail_k07_values_at_points_holds : PySem.Challenge.rw_copytail_k07_values_at_points.Holds := by
  w_on; o_law
  refine HandSHeadRun.head_any (r := OpenLaw.row PySem.Challenge.rw_copytail_k07_values_at_points) (q := view (OpenLaw.row PySem.Challenge.rw_copytail_k07_values_at_points).prog [63]) (H := CT.hk) (ob := CT.ob) (M := 9800) (loose := CT.loose) (d := HandSHeadRun.topDef (OpenLaw.row PySem.Challenge.rw_copytail_k07_values_at_points).prog 63) (kwd := []) CT.ob_eq
    (by kernel_rfl) (fun s => by kernel_rfl) CT.run (by kernel_rfl) (by kernel_rfl) (by kernel_rfl) (by rfl) (by first | assumption | decide +kernel) (by decide +kernel) ⟨rfl, rfl, rfl, rfl, rfl, by decide +kernel⟩ ?hw ?hc
  case hw => w_witness2
  case hc =>
    refine LamX.walk_ofTsE (l := PySem.Challenge.rw_copytail_k07_values_at_points) (n := 63) (k := 9) (x := "_law_script") (CX := fun _ => L2.CX0) rfl (by decide) (by kernel_rfl) ⟨rfl, by decide, by decide⟩ ?F (fun _ _ _ _ _ z => z)
    intro w mg fa h Y G hmg0
    obtain ⟨K, KX, c⟩ := Y
    have hmg : mg ("law" : PySem.Str) = some (.ref fa) := by
      have e : (HandSHeadRun.topDef (OpenLaw.row PySem.Challenge.rw_copytail_k07_values_at_points).prog 63).name = ("law" : PySem.Str) := by kernel_rfl
      rw [← e]
      exact hmg0
    exact ⟨K, KX, CT.law_at KX G hmg c⟩
