import PyProof.Rows.All
import Wide.All
import OpenK.AllK
import KE.KExcSuper
import HandS.Base
import HandS.Call
import HandS.List
import HandS.Ends
import HandS.Exc
import HandS.ExcInit
import KE.KExcIs
import HandS.ExcField
import HandS.ExcIs
import HandS.IsInst
import HandS.ExcOwn
import Wide.FinOn
import HandS.ForMost
import HandS.Style
import HandS.Wide
import HandS.WideBits
import HandS.TupAny
import HandS.TupMul
import HandS.Walk
import HandS.StrMore
import PyProof.NoPylong
import PyProof.Rows.StrMul
import HandS.Text
import KE.GoesZip
import KE.GoesEnumKw
import KE.GoesEnum
import KE.GoesMore
import HandS.FStrTup
import HandS.WordsExc
import PyProof.ReprRoads
import PyProof.CallFns
import HandS.OwnEq
import HandS.Defaults
import HandS.MakeKw
import HandS.MakeKwOnly
import HandS.Rev
import HandS.SortInts
import KE.DataMinMax
import HandS.SortKw
import HandS.DictEq
import HandS.Conv
import PySem.Challenge.RW_countscribe_k46_least_runs
import KE.RegKIsAll
import KE.RegKTryMore
set_option Elab.async false
set_option linter.all false
set_option maxRecDepth 100000
set_option maxHeartbeats 4000000
/-! An own exception class whose __init__ begins with super().__init__(..) (ValueError's), as a def of HandS. -/
namespace PySem.W
open PySem PySem.Calls PyProof.Rows
section
variable {prog : Program} {w : World} {A : Around} {E : Value → Shared → Prop} {h : Heap} {g : Array GenState} {d : Drawn} {t : Nat} {os : OsState}
variable {nm q : Str} {C N : Addr} {bs bm bmB : List Value} {hdct : Bool} {sn : List Str} {sub : List Value} {ab : Bool} {col : Option Bool} {dd : Option Addr} {k0 k1 k2 k3 k5 : Option Value} {B newId i : String}
/-- the bound __init__ called -/
theorem mw_call (FB : ExcBaseFacts B newId i bmB) {u e t0 : Addr} {rest : List Value} {Q : Value → Shared → Prop}
    (hC : h.get? C = some (excClassObj nm q C N bs bm hdct sn sub ab col dd k0 k1 k2 k3 k5 newId)) (he : h.get? e = some (HandSPX.excO C t0)) (hu : h.get? u = some (kxs_mw i e)) (hrest : rest.length ≤ sizeLine)
    (hq : ∀ h' t1, (∀ b o, b ≠ e → h.get? b = some o → h'.get? b = some o) → h'.get? e = some (HandSPX.excO C t1) → Q .none ⟨h', g, d, t, os⟩) :
    wpAny (model prog w) A (call (.ref u) rest) Q E ⟨h, g, d, t, os⟩ := by
  refine wpAny_call (codeAny_of_tree ?_)
  show wpAny _ A.in1 (callAny (.ref u) ⟨rest, []⟩) _ _ _
  simp only [callAny]
  refine wpAny_bind (wpAny_load hu ?_)
  simp only [kxs_mw, show (Value.type "method-wrapper" == Value.type "method" || Value.type "method-wrapper" == Value.type "builtin_function_or_method" || Value.type "method-wrapper" == Value.type "method-wrapper") = true by decide, if_true]
  refine KFB.if_so (by decide) ?_
  refine wpAny_bind (check_bound_init FB.toExcCallFacts hC he rfl ?_)
  refine wpAny_bind (wpAny_pure (wpAny_pure ?_))
  refine ⟨plainId_quiet FB.init.plain _, codeAny_builtin FB.initEntry ?_⟩
  exact exc_init_tree (cls := .ref C) (t0 := t0) (dv := none) (c2 := .none) (c3 := .none) (b4 := .bool false) he hrest fun h' k e' _ => hq h' _ k e'
end
end PySem.W
namespace L2
open PySem PySem.Spec PyProof.Rows
section
variable {CX : CXT} {P : Program} {w : World} {K : PySem.W.Frag} {mg : Str → Option Value} {base : Heap} {k : Nat} {f C D cc cda : Addr} {N ps : List Str} {sp : Sp}
/-- the context of such an __init__'s body -/
def cxS (CX : CXT) (P : Program) (w : World) (K : PySem.W.Frag) (mg : Str → Option Value) (base : Heap) (N : List Str) (qual : Str) (scope : Scope) (f : Addr) (cd : Value) (cc : Addr) (A : Around) (outer : List Env) (s : Shared) (H : Hp) (E : XK) : Cx where
  prog := P
  w := w
  K := K
  mg := mg
  base := base
  A := A.deeper (PySem.W.ksEnv qual scope s.heap.objs.size f cd cc)
  N := N
  s_0 := s
  H_0 := H
  env := PySem.W.ksEnv qual scope s.heap.objs.size f cd cc
  outer := outer
  stack := PySem.W.ksEnv qual scope s.heap.objs.size f cd cc :: outer
  ex := []
  calm := true
  fn := fun _ => false
  pn := []
  xe := fun e s' => wpAny (model P w) (A.deeper (PySem.W.ksEnv qual scope s.heap.objs.size f cd cc)) (leaving (PySem.W.ksEnv qual scope s.heap.objs.size f cd cc) e) (fun _ s'' => CX outer H s E e s'') (fun e' s'' => CX outer H s E e' s'') s'
/-- such a scope: the parameters are the first names, all local; __class__ is free, and nothing else -/
structure SupScope (N ps : List Str) (sc : Scope) : Prop where
  kind : sc.kind = .function
  gen : sc.isGenerator = false
  co : sc.isCoroutine = false
  nd : N.Nodup
  pre : N.take ps.length = ps
  par : ∀ x ∈ ps, sc.names.lookup x = some .local
  nocell : ∀ x ∈ sc.names, x.2 ≠ .cell
  nofree : ∀ x ∈ sc.names, x.2 = .free → x.1 = "__class__"
  sup : sc.names.lookup ("super" : Str) = some .globalImplicit
  cls : sc.names.lookup ("__class__" : Str) = some .free
theorem cellsS {x : Str} {c cc : Addr} (h : List.lookup x [(("__class__" : Str), cc)] = some c) : x = "__class__" ∧ c = cc := by
  simp only [List.lookup] at h
  split at h
  · rename_i e
    exact ⟨by simpa using e, (Option.some.inj h).symm⟩
  · cases h
theorem look_rev {α : Type} : ∀ {P : List Str} {vs : List α} {i : Nat} {x : Str} {v : α}, P.Nodup → P[i]? = some x → vs[i]? = some v → (P.zip vs).reverse.lookup x = some v := by
  intro P
  induction P with
  | nil => intro vs i x v _ h _; simp at h
  | cons p P ih =>
    intro vs i x v nd h1 h2
    cases vs with
    | nil => simp at h2
    | cons w vs =>
      rw [List.zip_cons_cons, List.reverse_cons, List.lookup_append]
      cases i with
      | zero =>
        simp at h1 h2
        subst h1; subst h2
        have no : (P.zip vs).reverse.lookup p = none := by
          rw [List.lookup_eq_none_iff]
          intro q hq
          have := List.of_mem_zip (List.mem_reverse.mp hq)
          simp only [bne_iff_ne, ne_eq, beq_eq_false_iff_ne]
          intro e
          exact (List.nodup_cons.mp nd).1 (by rw [e]; exact this.1)
        rw [no]
        simp
      | succ i =>
        rw [ih (List.nodup_cons.mp nd).2 (by simpa using h1) (by simpa using h2)]
        rfl
theorem inv_startS {D : Addr} {cl : Value} {cld : Option Addr} {csl : Array (Option Value)} {qual : Str} {scope : Scope} {cd : Value} {A : Around} {outer : List Env} {s : Shared} {h₁ : Heap} {tk : Nat} {H : Hp} {E : XK} {us : List Value} {vs : List V}
    (S : SupScope N ps scope) (hd : A.handled = none) (e0 : Env0 P w K mg base A outer s H) (hl : vs.length = ps.length) (r : Vals vs us) (hcell : K.lookup cc = some ⟨cl, cld, .cell (some (.ref D)), csl⟩)
    (ns : h₁.Ns s.heap.objs.size (fun y => (ps.zip us).reverse.lookup y)) (hk : ∀ b o, s.heap.get? b = some o → h₁.get? b = some o) :
    Inv (cxS CX P w K mg base N qual scope f cd cc A outer s H E) [] (start N vs) H { s with heap := h₁, toks := tk } := by
  have hpl : ps.length ≤ N.length := by have := congrArg List.length S.pre; rw [List.length_take] at this; omega
  have noA : ∀ b : Addr, b ∉ (cxS CX P w K mg base N qual scope f cd cc A outer s H E).ex := fun b z => absurd (show b ∈ ([] : List Addr) from z) (by simp)
  have cb := e0.mod.kin _ _ hcell
  refine ⟨⟨e0.mod, S.kind, rfl, rfl, Nat.le_refl _, fun y z c h1 h2 => ?_, fun y hy => ?_, fun y c h _ => (by cases h), fun _ => hd, Around.frames_deeper e0.frames, .inr ⟨rfl, rfl⟩, fun b z => absurd z (noA b), e0.bs, e0.bsz, fun b _ _ => noA b, fun b z => absurd z (noA b), e0.funs, e0.frf⟩,
    rfl, e0.bare, Un.kept hk, ⟨_, ns, fun i y v h1 h2 h3 => ?_⟩, fun y c h => ?_, e0.hok.fresh (Nat.le_refl _), fun y c h => ?_, fun p hp => absurd (show p ∈ ([] : List (Addr × Obj)) from hp) (by simp), e0.hok.kept hk, ?_⟩
  · exact (cellsS h1).1.trans (cellsS h2).1.symm
  · have hy : scope.names.lookup y = some .cell ∨ scope.names.lookup y = some .free := hy
    rcases hy with hy | hy
    · exact absurd rfl (S.nocell _ (PySem.mem_of_lookup hy))
    · have := S.nofree _ (PySem.mem_of_lookup hy) rfl
      refine ⟨cc, ?_⟩
      show List.lookup y [(("__class__" : Str), cc)] = _
      dsimp only at this
      rw [this]
      simp
  · have hi : i < vs.length := by
      unfold start at h2
      by_cases hi : i < vs.length
      · exact hi
      · rw [List.getElem?_append_right (by simpa using hi)] at h2
        rw [List.getElem?_replicate] at h2
        split at h2 <;> cases h2
    have ha : vs[i]? = some v := by
      unfold start at h2
      rw [List.getElem?_append_left (by simpa using hi), List.getElem?_map] at h2
      cases e : vs[i]? with
      | none => rw [e] at h2; cases h2
      | some a => rw [e] at h2; cases h2; rfl
    obtain ⟨u, hu, rv⟩ := r.get ha
    have hp : ps[i]? = some y := by
      rw [← S.pre, List.getElem?_take_of_lt (by omega)]; exact h1
    have ndP : ps.Nodup := by rw [← S.pre]; exact S.nd.sublist (List.take_sublist _ _)
    exact ⟨u, rv, .inl ⟨S.par y (List.mem_of_getElem? hp), look_rev ndP hp hu⟩⟩
  · obtain ⟨_, rfl⟩ := cellsS h
    exact ⟨_, _, hk _ _ (e0.bs _ _ cb).1, rfl⟩
  · obtain ⟨_, rfl⟩ := cellsS h
    exact (e0.bs _ _ cb).2
  · unfold start
    show _ = N.length
    rw [List.length_append, List.length_map, List.length_replicate]
    omega
theorem mw_callWith {A : Around} {E : Value → Shared → Prop} {s : Shared} {M : Model} {i : String} {u x : Addr} {pos : Pos} {env : Env} {e : Expr} {rest : List Expr} {Q : Value → Shared → Prop}
    (h : wpAny M A (spliced (backTo pos (starEach (e :: rest) env))) (fun vs s₁ => PySem.W.KxsAt i u x s₁.heap ∧ wpAny M A (call (.ref u) vs) Q E s₁) E s)
    (he : starEach (e :: rest) env = (false, eval e env) :: starEach rest env) (hplain : (backTo pos (starEach rest env)).any (·.1) = false) :
    wpAny M A (callWith pos (.ref u) [] (backTo pos (starEach (e :: rest) env)) []) Q E s := by
  rw [he] at h ⊢
  refine PySem.W.kxs_callWith (i := i) (x := x) (by show (false || (backTo pos (starEach rest env)).any (·.1)) = false; rw [hplain]; rfl) ?_
  exact PySem.Calls.evalArgs_plain h
/-- what the written part says of such a class and its __init__ -/
structure SupC (P : Program) (K : PySem.W.Frag) (D : Addr) (cc cda : Addr) : Prop where
  ox : OexC K D
  cell : ∃ cl cld csl, K.lookup cc = some ⟨cl, cld, .cell (some (.ref D)), csl⟩
  code : ∃ ccl cdd vs ccs file tf, K.lookup cda = some ⟨ccl, cdd, .fields vs, ccs⟩ ∧ vs[2]? = some (.str file tf) ∧ ((P.main.file : Str) == file) = true
  sup : PySem.W.ks_superIn K D D "__init__" = some (some (.builtin "ValueError.__init__"))
  self : PySem.W.mroIn K D (.ref D) = some true
  base : PySem.W.subIn K (.ref D) (.type "ValueError") = some true
  op : PySem.W.nsIn K cStatics "thirdparty.any" = some none
  top : (P.main.scope.names.lookup ("super" : Str)).isSome = false
theorem sup_first {X : Cx} {qual : Str} {scope : Scope} {L f D cc cda a : Addr} {N ps : List Str} {body : List Stmt} {oc : Value} {od : Option Addr} {osl : Array (Option Value)} {fd : FuncData} {ar : Arg} {e : Expr} {es : List Expr} {p0 p1 p2 p3 p4 : Pos} {s : Shared} {σ : St} {H : Hp} {ta : TA} {R : Hp → Prop}
    (hX : X.env = PySem.W.ksEnv qual scope L f (.ref cda) cc) (hN : X.N = N) (S : SupScope N ps scope) (T : SupC X.prog X.K D cc cda) (hs : X.mg "super" = none)
    (lk : X.K.lookup f = some ⟨oc, od, .func fd, osl⟩) (hp : (fd.params.posonlyargs ++ fd.params.args).head? = some ar) (h0 : ps[0]? = some ar.arg)
    (hst : ∀ env : Env, starEach (e :: es) env = (false, eval e env) :: starEach es env) (hpl : ∀ (pos : Pos) (env : Env), (backTo pos (starEach es env)).any (·.1) = false)
    (he : ∃ pl : Sem Bool, eval (.Call (.Attribute (.Call (.Name "super" p0) [] [] p1) "__init__" p2) (e :: es) [] p3) X.env = (do
      let ov ← attributeBase (.Call (.Name "super" p0) [] [] p1) "__init__" X.env (eval (.Call (.Name "super" p0) [] [] p1) X.env)
      standAt p2.atName
      let (f, first) ← holding [ov] (getMethod ov "__init__" pl)
      callWith p3 f first (backTo p3 (starEach (e :: es) X.env)) []))
    (hi : interactive X.env = false) (hsw : swapsWith (.Call (.Attribute (.Call (.Name "super" p0) [] [] p1) "__init__" p2) (e :: es) [] p3) none p4.line X.env = pure false)
    (I : Inv X [] σ H s) (v0 : σ[0]? = some (some (.ref a))) (ea : H a = some (exo a D none)) (hA : PA X (e :: es) ta)
    (q : ta σ H (fun ws H1 => ws.length ≤ 1000 ∧ H1 a = some (exo a D none) ∧ R H1)) :
    PySem.wpAt (model X.prog X.w) X.A (.func body X.env) (exec (.Expr (.Call (.Attribute (.Call (.Name "super" p0) [] [] p1) "__init__" p2) (e :: es) [] p3) p4) X.env) (fun fl s' => fl = .next ∧ ∃ H1, Inv X [] σ H1 s' ∧ R H1) X.xe s := by
  obtain ⟨cl, cld, csl, hcell⟩ := T.cell
  obtain ⟨ccl, cdd, cvs, ccs, file, tf, hcode, hvs, hfile⟩ := T.code
  obtain ⟨nm, qn, NN, bs, bm, sn, sub, ab, col, dd, k0, k1, k2, k3, k5, hC, hbm⟩ := T.ox.cls
  obtain ⟨t1, ho⟩ := exo_at I.hok ea
  obtain ⟨pl, he⟩ := he
  have hD1 := I.kIn _ _ hC
  obtain ⟨m, hn, hloc⟩ := I.loc
  have hpN : X.N[0]? = some ar.arg := by
    rw [hN]
    have := S.pre
    rw [← this, List.getElem?_take] at h0
    split at h0
    · exact h0
    · cases h0
  have hself : scope.names.lookup ar.arg = some .local := S.par _ (List.mem_of_getElem? h0)
  have kself : X.env.kindOf ar.arg = some .local := by rw [hX]; exact hself
  have mself : m ar.arg = some (.ref a) := by
    obtain ⟨u, ru, lo⟩ := hloc 0 ar.arg (.ref a) hpN v0 (.inl (by rw [hX]; exact hself))
    obtain rfl : u = Value.ref a := ru
    rcases lo with ⟨_, z⟩ | ⟨z | z, _⟩
    · exact z
    · rw [kself] at z; cases z
    · rw [kself] at z; cases z
  have kind : X.env.scope.kind = .function := by rw [hX]; exact S.kind
  have ksup : X.env.kindOf "super" = some .globalImplicit := by rw [hX]; exact S.sup
  have kcls : X.env.kindOf "__class__" = some .free := by rw [hX]; exact S.cls
  obtain ⟨mb, hb1, hb2⟩ := I.mod.blt
  have hCd : PySem.W.clsIn X.K D = some { name := nm, bases := bs, mro := .ref D :: bm, ns := NN, qualname := qn, hasDict := true, slotNames := sn, subclasses := sub, abstract := ab, collection := col, hasDel := false } := by unfold PySem.W.clsIn; rw [hC] <;> rfl
  refine ks_wpAt_Expr_any ?_ hi hsw
  refine ks_wpAt_mono (ks_wpAt_MethodCall (pl := pl) (Q := fun _ s' => ∃ H1, Inv X [] σ H1 s' ∧ R H1) ?_ he) (fun v s' z => ⟨rfl, z⟩) fun _ _ z => z
  refine ks_wpAt_super_base ksup kcls (by decide) (f := f) (by rw [hX]) (I.kIn _ _ lk) rfl hp (cc := cda) (by rw [hX]) (I.kIn _ _ hcode) rfl hvs hfile T.top ?_
  refine PySem.W.ks_loadName_global kind ksup (PySem.Calls.loadGlobal_builtin (by rw [I.ok.glob]; exact I.mod.glob.keeps I.bk) hs (by rw [I.ok.blt]; exact hb1.keeps I.bk) ((hb2 _ (by decide)).trans (by first | boot_by_name | rfl | kernel_rfl)) ⟨rfl, ?_⟩)
  refine wpAny_loadName_free kind kcls (c := cc) (by rw [hX]; rfl) ⟨_, I.kIn _ _ hcell, rfl⟩ ?_
  refine wpAny_loadName_local kind kself hn mself ?_
  obtain ⟨hp', g, dr, tk, os⟩ := s
  refine ks_wpAny_isType_cls hD1 rfl ⟨rfl, ?_⟩
  refine ks_wpAny_call_super hD1 rfl ho rfl (fun c z => by cases z) (PySem.W.looks_mroIn I.kIn T.self) (fun h2 e2 k2 => ?_)
  have I2 := I.kept (t' := tk) k2
  have ho2 := k2 _ _ ho
  have hm' := T.sup
  unfold PySem.W.ks_superIn at hm'
  rw [hCd] at hm'
  have inst : PySem.W.InstAt h2 a ({ cls := .ref D, dict := none, data := .fields #[.ref t1, .none, .none, .none, .bool false, .none] } : Obj) D none := ⟨ho2, rfl, rfl, trivial⟩
  have hI : PySem.W.Looks (model X.prog X.w) h2 (isInstance (.ref a) (.type "ValueError")) true := inst.type.andThen (PySem.W.looks_subIn I2.kIn T.base)
  have hmro : PySem.W.Looks (model X.prog X.w) h2 (mroOf (.ref D)) (.ref D :: bm) := (PySem.W.looks_clsIn I2.kIn hCd).andThen .now
  refine PySem.W.kxs_getMethod PySem.W.kxs_ValueError e2 (PySem.W.looks_opaque I2.kIn T.op) hmro rfl I2.kIn hm' hI (PySem.W.ks_ne I2.kIn inst hCd) (by decide) ?_
  have k3 : ∀ b o, h2.get? b = some o → (h2.push (PySem.W.kxs_mw "ValueError.__init__" a)).get? b = some o := fun b o z => Heap.get?_push_of_some _ z
  have I3 := I2.kept (t' := tk + 1) k3
  have hu : (h2.push (PySem.W.kxs_mw "ValueError.__init__" a)).get? h2.objs.size = some (PySem.W.kxs_mw "ValueError.__init__" a) := Heap.get?_push_at rfl rfl
  have fresh : H h2.objs.size = none := I2.hok.fresh (Nat.le_refl _)
  have I4 : Inv X [(h2.objs.size, PySem.W.kxs_mw "ValueError.__init__" a)] σ H ⟨h2.push (PySem.W.kxs_mw "ValueError.__init__" a), g, dr, tk + 1, os⟩ := I3.pins_of fun p hp => by
    have : p = (h2.objs.size, PySem.W.kxs_mw "ValueError.__init__" a) := by simpa using hp
    subst this
    exact ⟨hu, fresh, Ne.symm (Nat.ne_of_lt I2.lt), I2.nofs (Nat.le_refl _), fun v z => by cases z⟩
  refine mw_callWith (i := "ValueError.__init__") (x := a) ?_ (hst _) (hpl _ _)
  refine thn (hA.run p3 _ _ σ H _ I4 q) fun us s1 ⟨vs, H1, I5, r1, hlen, ea1, qr⟩ => ?_
  have pin := (I5.pin (h2.objs.size, PySem.W.kxs_mw "ValueError.__init__" a) (by simp)).1
  refine ⟨pin, ?_⟩
  obtain ⟨t2, ho5⟩ := exo_at I5.hok ea1
  obtain ⟨h5, g5, d5, tk5, os5⟩ := s1
  refine PySem.W.mw_call F.excBase_ValueError (I5.kIn _ _ hC) ho5 pin (by rw [← Paired.length r1, sizeLine_eq]; omega) fun h6 t3 k6 hx => ?_
  have J := I5.write (t' := tk5) (x := a) (e := a) (o := exo a D none) (by rw [ea1]; exact True.intro) (.inl rfl) k6 ⟨_, hx⟩ (exo_ok hx)
  have eu : upd H1 a (exo a D none) = H1 := by
    funext b
    by_cases hb : b = a
    · rw [hb, upd_same, ea1]
    · rw [upd_ne hb]
  rw [eu] at J
  exact ⟨H1, J.pins_of (fun p hp => by cases hp), qr⟩
theorem fn_super {D : Addr} {name qual : Str} {params : Arguments} {scope : Scope} {dV kV doc pm ct oc : Value} {an od : Option Addr} {osl : Array (Option Value)} {ar : Arg} {e : Expr} {es : List Expr} {rest : List Stmt} {p0 p1 p2 p3 p4 : Pos}
    (lk : K.lookup f = some ⟨oc, od, .func (PySem.W.ksFn name qual params (.Expr (.Call (.Attribute (.Call (.Name "super" p0) [] [] p1) "__init__" p2) (e :: es) [] p3) p4 :: rest) scope dV kV doc pm an (.ref cda) ct cc), osl⟩)
    (hcd : PySem.W.codeIn K (.ref cda) qual = true) (S : SupScope N ps scope) (T : SupC P K D cc cda) (hs : mg "super" = none)
    (hp : (params.posonlyargs ++ params.args).head? = some ar) (h0 : ps[0]? = some ar.arg)
    (len : ∀ vs H Q E, sp vs H Q E → vs.length = ps.length)
    (hst : ∀ env : Env, starEach (e :: es) env = (false, eval e env) :: starEach es env) (hpl : ∀ (pos : Pos) (env : Env), (backTo pos (starEach es env)).any (·.1) = false)
    (he : ∀ env : Env, env.scope = scope → ∃ pl : Sem Bool, eval (.Call (.Attribute (.Call (.Name "super" p0) [] [] p1) "__init__" p2) (e :: es) [] p3) env = (do
      let ov ← attributeBase (.Call (.Name "super" p0) [] [] p1) "__init__" env (eval (.Call (.Name "super" p0) [] [] p1) env)
      standAt p2.atName
      let (f, first) ← holding [ov] (getMethod ov "__init__" pl)
      callWith p3 f first (backTo p3 (starEach (e :: es) env)) []))
    (hi : ∀ env : Env, env.scope = scope → interactive env = false) (hsw : ∀ env : Env, swapsWith (.Call (.Attribute (.Call (.Name "super" p0) [] [] p1) "__init__" p2) (e :: es) [] p3) none p4.line env = pure false)
    (hbody : ∀ (A : Around) (outer : List Env) (s : Shared) (H : Hp) (vs : List V) (Q : VK) (E : XK), Room k (A.deeper (PySem.W.ksEnv qual scope s.heap.objs.size f (.ref cda) cc)) → sp vs H Q E →
      ∃ a ta t, vs[0]? = some (.ref a) ∧ H a = some (exo a D none) ∧ PA (cxS CX P w K mg base N qual scope f (.ref cda) cc A outer s H E) (e :: es) ta ∧ PSs (cxS CX P w K mg base N qual scope f (.ref cda) cc A outer s H E) rest t ∧
        ta (L2.start N vs) H (fun ws H1 => ws.length ≤ 1000 ∧ H1 a = some (exo a D none) ∧ t { nx := fun _ H' => Q .non H', rt := Q } (L2.start N vs) H1)) :
    FnOk P w K mg base CX (k + 1) f (PySem.W.ksFn name qual params (.Expr (.Call (.Attribute (.Call (.Name "super" p0) [] [] p1) "__init__" p2) (e :: es) [] p3) p4 :: rest) scope dV kV doc pm an (.ref cda) ct cc) ps sp := by
  refine ⟨len, fun A outer s H args us vs Q E hr e0 hb r hsp => ?_⟩
  have hl := len _ _ _ _ hsp
  have KX : K.In s.heap := e0.mod.kin.keeps fun b o e => (e0.bs b o e).1
  have lim : s.heap.NoLimit := e0.mod.nolimit.keeps fun b o e => (e0.bs b o e).1
  refine ks_codeAny_call_defAt hr.depth (KX _ _ lk) rfl lim (PySem.W.codeRec_of KX hcd) rfl hb S.nocell (fun y hy => S.par y.1 (List.of_mem_zip hy).1) (fun h₁ ns hk => ?_) S.co S.gen S.kind
  obtain ⟨a, ta, t, v0, ea, hA, hS, q⟩ := hbody A outer s H vs Q E (hr.deeper _) hsp
  obtain ⟨cl, cld, csl, hcell⟩ := T.cell
  have I : Inv (cxS CX P w K mg base N qual scope f (.ref cda) cc A outer s H E) [] (L2.start N vs) H { s with heap := h₁, toks := s.toks + (ps.zip us).length } := inv_startS S hr.hd e0 hl r hcell ns hk
  refine ks_wpAt_execs_cons ?_
  have vs0 : (L2.start N vs)[0]? = some (some (.ref a)) := by
    unfold L2.start
    have hlt : 0 < vs.length := by
      cases vs with
      | nil => cases v0
      | cons _ _ => simp
    rw [List.getElem?_append_left (by simpa using hlt), List.getElem?_map, v0]
    rfl
  refine ks_wpAt_mono (sup_first (X := cxS CX P w K mg base N qual scope f (.ref cda) cc A outer s H E) rfl rfl S T hs lk hp h0 hst hpl (he _ rfl) (hi _ rfl) (hsw _) I vs0 ea hA q) (fun fl s' z => ?_) fun _ _ z => z
  obtain ⟨rfl, H1, J, qr⟩ := z
  refine wpAt_of_wpAny ?_
  refine wpAny_mono (hS.run [] s' _ H1 _ J qr) (fun fl s' hs => ?_) fun e s' hs => hs
  have fin : ∀ {σ' : St} {H' : Hp} {v : V} {u : Value}, Inv (cxS CX P w K mg base N qual scope f (.ref cda) cc A outer s H E) [] σ' H' s' → RelV v u → Q v H' → CE outer P w H s Q u s' :=
    fun {σ' H' v u} J rv q => ⟨v, H', J.os, J.bare, J.base, J.hok, rv, q⟩
  cases fl with
  | ret u =>
    obtain ⟨v, σ', H', J, rv, q⟩ := hs
    exact fin J rv q
  | next =>
    obtain ⟨σ', H', J, q⟩ := hs
    exact fin (v := V.non) (u := Value.none) J rfl q
  | brk =>
    obtain ⟨_, _, _, q⟩ := hs
    exact False.elim q
  | cont =>
    obtain ⟨_, _, _, q⟩ := hs
    exact False.elim q
end
end L2

set_option Elab.async false
set_option linter.all false
set_option maxRecDepth 100000
set_option maxHeartbeats 4000000
/-! A caught exception kept as a value: the try statement, isinstance of it, its field. -/
namespace L2
open PySem PySem.Spec PyProof.Rows
/-- at a: a caught exception of the class at C, its dict at d -/
def exk (a C d : Addr) : HO := .ext fun h => ∃ (oe : Obj) (vs : Array Value), h.get? a = some oe ∧ oe.cls = .ref C ∧ oe.dict = some d ∧ oe.data = .fields vs
theorem exk_ok {P : Program} {w : World} {H : Hp} {h : Heap} {a C d : Addr} {oe : Obj} {vs : Array Value} (he : h.get? a = some oe) (h1 : oe.cls = .ref C) (h2 : oe.dict = some d) (h3 : oe.data = .fields vs) : ObjOk P w H h a (exk a C d) :=
  ⟨⟨oe, vs, he, h1, h2, h3⟩, ⟨_, he⟩, fun h1 h2 z k => by
    obtain ⟨oe, vs, q, r⟩ := z
    exact ⟨oe, vs, k _ q, r⟩⟩
theorem exk_at {P : Program} {w : World} {H : Hp} {h : Heap} {a C d : Addr} (hok : HOk P w H h) (he : H a = some (exk a C d)) : ∃ (oe : Obj) (vs : Array Value), h.get? a = some oe ∧ oe.cls = .ref C ∧ oe.dict = some d ∧ oe.data = .fields vs := by
  have x : ObjOk P w H h a (.ext fun h => ∃ (oe : Obj) (vs : Array Value), h.get? a = some oe ∧ oe.cls = .ref C ∧ oe.dict = some d ∧ oe.data = .fields vs) := hok a _ he
  exact x.1
theorem exk_inst {K : PySem.W.Frag} {h : Heap} {a C d : Addr} {oe od : Obj} {vs : Array Value} (he : h.get? a = some oe) (h1 : oe.cls = .ref C) (h2 : oe.dict = some d) (h3 : oe.data = .fields vs) (ho : h.get? d = some od) : PySem.W.InstAt h a oe C (some od) :=
  ⟨he, h1, by unfold PySem.W.notCls; rw [h3] <;> rfl, by rw [h2]; exact ho⟩
section
variable {X : Cx} {pins : List (Addr × Obj)} {σ : St} {H : Hp} {s : Shared}
/-- an object that lies there untracked, laid since the entry, is tracked from now on -/
theorem Inv.track {a C d : Addr} {oe : Obj} {vs : Array Value} (I : Inv X pins σ H s) (hn : H a = none) (he : s.heap.get? a = some oe) (h1 : oe.cls = .ref C) (h2 : oe.dict = some d) (h3 : oe.data = .fields vs)
    (new : X.s_0.heap.get? a = none) (hex : X.ex = []) (nL : a ≠ X.env.locals) (np : ∀ p ∈ X.pn ++ pins, p.1 ≠ a) : Inv X pins σ (upd H a (exk a C d)) s := by
  have ne : ∀ {b : Addr} {u : HO}, H b = some u → b ≠ a := fun {b u} e z => by rw [z, hn] at e; cases e
  have ns : ∀ {b : Addr} {o : Obj}, X.s_0.heap.get? b = some o → b ≠ a := fun {b o} e z => by rw [z, new] at e; cases e
  refine ⟨I.ok, I.os, I.bare, ⟨I.base.keep, I.base.slot, fun b o e n hx => ?_, I.base.there, fun b xs e => ?_, fun b o u e => ?_, fun b ps e => ?_⟩, I.loc, I.cell, ?_, fun x c e => ?_, fun p hp => ?_, fun b u e => ?_, I.len⟩
  · rw [upd_ne (ns e)]
    exact I.base.free b o e n hx
  · have := I.base.tups b xs e
    rw [upd_ne (ne this)]
    exact this
  · have := I.base.frzs b o u e
    rw [upd_ne (ne this)]
    exact this
  · obtain ⟨m, z⟩ := I.base.tbls b ps e
    refine ⟨m, ?_⟩
    rw [upd_ne (ne z)]
    exact z
  · rw [upd_ne (Ne.symm nL)]
    exact I.free
  · obtain ⟨v, o, ho, hd⟩ := I.cell x c e
    have : c ≠ a := fun z => by
      rw [z, he] at ho
      cases ho
      rw [h3] at hd
      cases hd
    rw [upd_ne this]
    exact I.freeC x c e
  · obtain ⟨e, n, n1, n2, n3⟩ := I.pin p hp
    exact ⟨e, by rw [upd_ne (np p hp)]; exact n, n1, n2, n3⟩
  · by_cases hb : b = a
    · subst hb
      rw [upd_same] at e
      cases e
      exact exk_ok he h1 h2 h3
    · rw [upd_ne hb] at e
      refine (I.hok b u e).stay (fun c v _ q => q) (fun c q => ?_) fun c xs q => ?_
      · rw [upd_ne (ne q)]
        exact q
      · rw [upd_ne (ne q)]
        exact q
end
/-- what the clause 'except x as n: m = n' wishes of an exception of the body -/
def wKeep (K : PySem.W.Frag) (c : Value) (i j : Nat) (D : Ends) : WX := fun cls d σ H =>
  PySem.W.exmOne K cls c = some true ∧ ∃ C dd, cls = .ref C ∧ d = some dd ∧ ∀ a, H a = none → D.nx (((σ.set i (some (.ref a))).set j (some (.ref a))).set i none) (upd H a (exk a C dd))
section
variable {X : Cx} {x n m : Str} {c : Value} {i j : Nat} {body : List Stmt} {np pm pn' pa pos pos' : Pos} {tb : WX → TS}
theorem ps_try_keep (hs : X.stack = X.env :: X.outer) (hf : X.env.frame = some X.env.locals) (hex : X.ex = []) (hN : X.N.Nodup) (hi : X.N[i]? = some n) (hln : X.env.kindOf n = some .local) (hj : X.N[j]? = some m) (hlm : X.env.kindOf m = some .local) (hc : Names X x c)
    (hb : ∀ (W : WX) (pn : List (Addr × Obj)) (xe : Value → Shared → Prop), Takes (X.tr pn xe) W → PassesOwn (model X.prog X.w) X.A X.env xe → PSs (X.tr pn xe) body (tb W))
    (hil : i < X.N.length) (hdn : (n == ("__debug__" : Str)) = false := by decide) (hcn : (n == ("__classdict__" : Str)) = false := by decide)
    (h1 : swapsWithSole [.Name m pm] (.Name n pn') pa.line X.env = pure false := by rfl) (h2 : swappedStores [.Name m pm] (.Name n pn') X.env = pure none := by rfl) (h3 : (assignEach [.Name m pm] X.env).map (·.2) = [assign (.Name m pm) X.env] := by rfl) :
    PS X (.Try body [.ExceptHandler (some (.Name x np)) (some n) [.Assign [.Name m pm] (.Name n pn') pa] pos'] [] [] pos) (fun D σ H => tb (wKeep X.K c i j D) D σ H) := by
  refine ⟨fun pins s σ H D I h => ?_⟩
  have ok := I.ok
  have hfr : X.A.frames = some (X.env :: X.outer) := by rw [ok.frames, hs]
  have hloc : Loc X.env.scope n := .inl hln
  refine wpAny_Try_except ?_
  refine wpAny_mono ((hb (wKeep X.K c i j D) (X.pn ++ pins) (fun e s₁ => wpAny (model X.prog X.w) X.A (noteFrame e X.env) (fun _ s₂ => wpAny (model X.prog X.w) X.A (setFlight e none) (fun _ s₃ =>
    wpAny (model X.prog X.w) X.A (handleBy e X.env [.ExceptHandler (some (.Name x np)) (some n) [.Assign [.Name m pm] (.Name n pn') pa] pos']) (SP X pins D) X.xe s₃) X.xe s₂) X.xe s₁) (fun u s' xx => ?_) PassesOwn.looking).run [] s σ H D (I.toTry _) h) (fun f s1 hsp => ?_) (fun e s1 he => he)
  · -- the catch
    obtain ⟨a, B, sI, pins', σ', H', cls, d, rfl, J', nb, up, sky, na, os, ag, hb1, C, dd, rfl, rfl, hyes⟩ := xx
    have J : Inv X pins σ' H' sI := J'.ofTry ok
    have sky' : Sky B (X.env :: X.outer) a (Zc (.ref C) (some dd)) X.env.locals s'.heap := by rw [← hs]; exact sky
    show wpAny (model X.prog X.w) X.A (noteFrame (.ref a) X.env) _ _ _
    refine Sky.land Zc.steady hfr hf sky' fun h3' fl3 up3 => ?_
    have J3 : Inv X pins σ' H' { s' with heap := h3' } := J.landed nb fl3.1 (up.trans up3) os ag
    obtain ⟨oe3, vs3, he3, hz3, hd3⟩ := fl3.there
    have notFr : ∀ {h : Heap} {o : Obj} {vs : Array Value}, h.FunFrames B (X.env :: X.outer) → h.get? a = some o → o.data = .fields vs → a ∉ frs (X.env :: X.outer) := fun {h o vs} ff e dd hm => by
      obtain ⟨_, o', e', hnf⟩ := ff.mem hm
      rw [e] at e'; cases e'
      exact hnf _ dd
    have nfr := notFr fl3.2.2.1 he3 hd3
    have nL : a ≠ X.env.locals := fun z => nfr (List.mem_filterMap.mpr ⟨X.env, List.mem_cons_self, by rw [hf, z]⟩)
    have nF : a ∉ X.fs := fun hm => by
      obtain ⟨e, he, q⟩ := List.mem_filterMap.mp hm
      exact nfr (List.mem_filterMap.mpr ⟨e, List.mem_cons_of_mem _ he, q⟩)
    have Ba : B.get? a = none := fl3.2.1
    have sIa : sI.heap.get? a = none := by
      cases z : sI.heap.get? a with
      | none => rfl
      | some o =>
        have := nb a o z (by rw [hs]; exact nfr)
        rw [Ba] at this
        cases this
    have new : X.s_0.heap.get? a = none := by
      cases z : X.s_0.heap.get? a with
      | none => rfl
      | some o =>
        obtain ⟨o', z'⟩ := J.base.there a o z (by rw [hex]; simp)
        rw [sIa] at z'
        cases z'
    have npin : ∀ p ∈ X.pn ++ pins, p.1 ≠ a := fun p hp z => by
      have := (J.pin p hp).1
      rw [z, sIa] at this
      cases this
    have S3 := J3.suite he3 hd3 na nL nF
    refine wpAny_handleBy_cons (codeAny_handlers_test ?_) (by intro q; cases q)
    have LT : PySem.W.Looks (model X.prog X.w) h3' (typeOf (.ref a)) (.ref C) := fun A Q E s k q => wpAny_typeOf_ref (k _ _ he3) (by rw [hz3.1]; exact q)
    have LM := PySem.W.exm_one (M := model X.prog X.w) (J3.kIn) LT hb1
    have test : ∀ {Q : Value → Shared → Prop} {E : Value → Shared → Prop}, Q c { s' with heap := h3' } → wpAny (model X.prog X.w) (X.A.mark (some (.ref a))) (eval (.Name x np) X.env) Q E { s' with heap := h3' } := fun {Q E} q => by
      obtain ⟨hg, hdbg, hm | ⟨hm, hv, hnn⟩⟩ := hc
      · exact ld_glob (X := X.suite a ((a, oe3) :: (X.pn ++ pins))) S3 hg hm q hdbg
      · exact ld_blt (X := X.suite a ((a, oe3) :: (X.pn ++ pins))) S3 hg hm hv q hnn hdbg
    refine test (LM.here ?_)
    refine codeAny_handlers_suite_as ?_
    refine HandSPX.lands_againZ fl3 fun h4 fl4 up4 => ?_
    have J4 : Inv X pins σ' H' { s' with heap := h4 } := J.landed nb fl4.1 ((up.trans up3).trans up4) os ag
    obtain ⟨oe4, vs4, he4, hz4, hd4⟩ := fl4.there
    have S4 := J4.suite he4 hd4 na nL nF
    refine store_ok (X := X.suite a ((a, oe4) :: (X.pn ++ pins))) (v := .ref a) S4 hN hi hloc rfl (fun s5 S5 => ?_) (.inr hln)
    have iσ : i < σ'.length := by rw [J.len]; exact hil
    have body : PS (X.suite a ((a, oe4) :: (X.pn ++ pins))) (.Assign [.Name m pm] (.Name n pn') pa) (tAsg (tVar i) (gName j)) :=
      ps_asg (pe_var hi (.inl hln) hdn hcn) (pg_name hN hj (.inl hlm) (.inr hlm)) h1 h2 h3
    have run := (pss_cons body pss_nil).run [] s5 _ H' { nx := fun σ6 H6 => σ6 = (σ'.set i (some (.ref a))).set j (some (.ref a)) ∧ H6 = H', rt := fun _ _ => False } S5 ?_
    · refine wpAny_mono run (fun f s6 hsp => ?_) (fun _ _ z => False.elim z)
      cases f with
      | next =>
        obtain ⟨σ6, H6, S6, e1, e2⟩ := hsp
        subst e1 e2
        have he6 : s6.heap.get? a = some oe4 := (S6.pin (a, oe4) (by simp)).1
        have S7 : Inv X ((a, oe4) :: pins) ((σ'.set i (some (.ref a))).set j (some (.ref a))) H6 s6 :=
          ⟨ok, S6.os, S6.bare, S6.base, S6.loc, S6.cell, S6.free, S6.freeC, fun p hp => S6.pin p (by
            rw [List.append_nil]
            rcases List.mem_append.mp hp with z | z
            · exact List.mem_cons_of_mem _ (List.mem_append_left _ z)
            · rcases List.mem_cons.mp z with z | z
              · rw [z]; exact List.mem_cons_self
              · exact List.mem_cons_of_mem _ (List.mem_append_right _ z)), S6.hok, S6.len⟩
        refine gone_ok S7 hN hi hln fun s7 J7 => ⟨_, _, ?_, hyes a na⟩
        have he7 : s7.heap.get? a = some oe4 := (J7.pin (a, oe4) (by simp)).1
        have J8 : Inv X pins ((((σ'.set i (some (.ref a))).set j (some (.ref a)))).set i none) H6 s7 :=
          ⟨ok, J7.os, J7.bare, J7.base, J7.loc, J7.cell, J7.free, J7.freeC, fun p hp => J7.pin p (by
            rcases List.mem_append.mp hp with z | z
            · exact List.mem_append_left _ z
            · exact List.mem_append_right _ (List.mem_cons_of_mem _ z)), J7.hok, J7.len⟩
        exact J8.track na he7 hz4.1 hz4.2 hd4 new hex nL npin
      | brk =>
        obtain ⟨σ6, H6, S6, q6⟩ := hsp
        exact False.elim q6
      | cont =>
        obtain ⟨σ6, H6, S6, q6⟩ := hsp
        exact False.elim q6
      | ret u =>
        obtain ⟨v6, σ6, H6, S6, r6, q6⟩ := hsp
        exact False.elim q6
    · refine ⟨.ref a, ?_, rfl, rfl⟩
      rw [List.getElem?_set_self iσ]
  · cases f with
    | next =>
      obtain ⟨σ', H', J', q⟩ := hsp
      exact wpAny_execs_nil ⟨σ', H', J'.ofTry ok, q⟩
    | brk =>
      obtain ⟨σ', H', J', q⟩ := hsp
      exact ⟨σ', H', J'.ofTry ok, q⟩
    | cont =>
      obtain ⟨σ', H', J', q⟩ := hsp
      exact ⟨σ', H', J'.ofTry ok, q⟩
    | ret u =>
      obtain ⟨v, σ', H', J', r, q⟩ := hsp
      exact ⟨v, σ', H', J'.ofTry ok, r, q⟩
end
end L2

set_option Elab.async false
set_option linter.all false
set_option maxRecDepth 100000
set_option maxHeartbeats 4000000
/-! isinstance of a kept exception, its field, None beside it. -/
namespace L2
open PySem PySem.Spec PyProof.Rows
/-- a kept exception: its class's facts, its dict -/
structure Exk (K : PySem.W.Frag) (H : Hp) (a C d : Addr) (fs : List (Str × V)) : Prop where
  at_ : H a = some (exk a C d)
  dict : H d = some (.xd fs)
  is : ExcC K C
theorem exk_kit {X : Cx} {pins : List (Addr × Obj)} {σ : St} {H : Hp} {s : Shared} {a C d : Addr} {fs : List (Str × V)} (I : Inv X pins σ H s) (T : Exk X.K H a C d fs) :
    ∃ P : Heap → Prop, PySem.W.KitX X.K (.ref a) (.ref C) P ∧ P s.heap := by
  obtain ⟨oe, vs, he, h1, h2, h3⟩ := exk_at I.hok T.at_
  obtain ⟨od, ho⟩ := objOk_get (I.hok d _ T.dict)
  have J := exk_inst (K := X.K) he h1 h2 h3 ho
  have hcl : (PySem.W.clsIn X.K C).isSome = true := by
    obtain ⟨cd, hc, _⟩ := PySem.W.any_some T.is.hd
    rw [hc]
    rfl
  exact ⟨_, PySem.W.kitx_exc (od := some od) hcl T.is.hg T.is.hk T.is.hs T.is.ha T.is.hn T.is.ht T.is.hm, J⟩
def rIsX (K : PySem.W.Frag) : List V → Hp → VK → Prop := fun xs H Q => rIsi K xs H Q ∨ ∃ (a C d : Addr) (fs : List (Str × V)) (c : V) (u : Value) (b : Bool), xs = [.ref a, c] ∧ ClsV c u ∧ Exk K H a C d fs ∧ PySem.W.kitOne K (.ref C) u = some b ∧ Q (.bl b) H
def rIsXT (K : PySem.W.Frag) : List V → Hp → VK → Prop := fun xs H Q => rIsiT K xs H Q ∨ ∃ (a C d : Addr) (fs : List (Str × V)) (tp : Addr) (cs : List V) (us : List Value) (b : Bool), xs = [.ref a, .ref tp] ∧ H tp = some (.tup cs) ∧ Paired ClsV cs us ∧ Exk K H a C d fs ∧ PySem.W.kitAny K (.ref C) us = some b ∧ Q (.bl b) H
section
variable {X : Cx}
theorem call_isX : CallR X (.builtin "isinstance") (rIsX X.K) := by
  intro pins s σ H xs us Q I r h
  rcases h with h | ⟨a, C, d, fs, c, u, b, rfl, k, T, e, q⟩
  · exact call_isi pins s σ H xs us Q I r h
  obtain ⟨u1, u2, rfl, r1, r2⟩ := vals2 r
  have e2 := k.eq r2
  subst e2
  cases (show u1 = Value.ref a from r1)
  obtain ⟨P, Z, p⟩ := exk_kit I T
  exact PySem.W.kia_one Z I.kIn p e (fun z => nomatch z) fun tk => ⟨.bl b, H, I.tok tk, rfl, q⟩
theorem call_isXT : CallR X (.builtin "isinstance") (rIsXT X.K) := by
  intro pins s σ H xs us Q I r h
  rcases h with h | ⟨a, C, d, fs, tp, cs, ws, b, rfl, hT, k, T, e, q⟩
  · exact call_isiT pins s σ H xs us Q I r h
  obtain ⟨u1, u2, rfl, r1, r2⟩ := vals2 r
  cases (show u2 = Value.ref tp from r2)
  cases (show u1 = Value.ref a from r1)
  obtain ⟨P, Z, p⟩ := exk_kit I T
  obtain ⟨_, its, rv, o, h1, h2, n, h3⟩ := (show ObjOk X.prog X.w H s.heap tp (.tup cs) from I.hok tp _ hT)
  have e3 := ClsV.all k rv
  subst e3
  obtain ⟨oc, od, dt, sl⟩ := o
  simp only at h2 h3
  subst h2 h3
  exact PySem.W.kia_tup Z I.kIn p h1 e (fun z => nomatch z) fun tk => ⟨.bl b, H, I.tok tk, rfl, q⟩
/-- e.f, e a kept exception -/
def tXv (K : PySem.W.Frag) (n : Str) (te : TE) : TE := fun σ H Q => te σ H fun x H1 => ∃ (a C d : Addr) (fs : List (Str × V)) (v : V), x = .ref a ∧ Exk K H1 a C d fs ∧ XfC K C ∧ PySem.W.findIn K (.ref C) n = some none ∧ fs.lookup n = some v ∧ Q v H1
theorem pe_xv {e : Expr} {te : TE} {pos : Pos} {n : Str} (he : PE X e te) (hb : attributeBase e n X.env (eval e X.env) = eval e X.env := by rfl) : PE X (.Attribute e n pos) (tXv X.K n te) := by
  refine ⟨fun pins s σ H Q I h => ?_⟩
  refine attr_of hb (thn (he.run pins s σ H _ I h) fun u s1 hh => ?_)
  obtain ⟨x, H1, I1, rx, a, C, d, fs, v, ex, T, F, hno, l, q⟩ := hh
  subst ex
  obtain rfl : u = Value.ref a := rx
  obtain ⟨oe, vs, ha, h1, h2, h3⟩ := exk_at I1.hok T.at_
  have hx : ObjOk X.prog X.w H1 s1.heap d (.xd fs) := I1.hok d _ T.dict
  obtain ⟨mA, hns, hr⟩ := hx
  obtain ⟨od, ho, hl⟩ := lookIn_ns hns
  obtain ⟨u, hu, ru⟩ := RelO.some_of (v := v) (o := mA n) (by rw [← l]; exact hr n)
  have J := exk_inst (K := X.K) ha h1 h2 h3 ho
  exact HandSPX.exc_get I1.kIn J F.ga F.gg F.exC (PySem.W.findObj_own F.hdC hno rfl (by rw [hl, hu])) (handed_of ru) ⟨v, H1, I1.tok _, ru, q⟩
end
end L2

set_option Elab.async false
set_option linter.all false
set_option maxRecDepth 100000
set_option maxHeartbeats 4000000
namespace DL
open PySem L2

/-! ### data -/
inductive Dv where
  | non
  | bl (b : Bool)
  | int (i : Int)
  | str (s : Str)
  | lst (xs : List Dv)
  | tup (xs : List Dv)
  | ins (C : Addr) (ns : List Str) (ds : List Dv)
  | ty (n : String)
  | cls (C : Addr)
  /-- some text -/
  | anyS
  /-- a dict: its keys in order, and what they have -/
  | dct (ks : List Key) (ds : List Dv)
  /-- a caught exception that is kept: its class, its fields -/
  | exc (C : Addr) (ns : List Str) (ds : List Dv)
  /-- the script: a list of ints that nobody changes, within the kit's own reading of lists -/
  | scr (K : PySem.W.Frag) (ns : List Int)

mutual
/-- v reads as the data, by objects that are not in M -/
def Dat (M : Addr -> Prop) (H : Hp) : Dv → V → Prop
  | .non, v => v = .non
  | .bl b, v => v = .bl b
  | .int i, v => v = .int i
  | .str s, v => v = .str s
  | .lst ds, v => ∃ a vs, v = .ref a ∧ ¬ M a ∧ H a = some (.lst vs) ∧ Dats M H ds vs
  | .tup ds, v => ∃ a vs, v = .ref a ∧ ¬ M a ∧ H a = some (.tup vs) ∧ Dats M H ds vs
  | .ins C ns ds, v => ∃ a dx vs, v = .ref a ∧ ¬ M a ∧ H a = some (.ins C dx (ns.zip vs)) ∧ ns.length = ds.length ∧ Dats M H ds vs
  | .ty n, v => v = .ty n
  | .cls C, v => v = .ref C
  | .anyS, v => ∃ x, v = .str x
  | .dct ks ds, v => ∃ a vs, v = .ref a ∧ ¬ M a ∧ H a = some (.dK (ks.zip vs)) ∧ ks.length = ds.length ∧ Dats M H ds vs
  | .exc C ns ds, v => ∃ a d vs, v = .ref a ∧ ¬ M a ∧ ¬ M d ∧ H a = some (L2.exk a C d) ∧ H d = some (.xd (ns.zip vs)) ∧ ns.length = ds.length ∧ Dats M H ds vs
  | .scr K ns, v => ∃ a, v = .ref a ∧ ((¬ M a ∧ Rd H a (.lst (ns.map V.int))) ∨ ∀ H' : Hp, SqL K H' a (ns.map V.int))
def Dats (M : Addr -> Prop) (H : Hp) : List Dv → List V → Prop
  | [], vs => vs = []
  | d :: ds, vs => ∃ v r, vs = v :: r ∧ Dat M H d v ∧ Dats M H ds r
end

section
variable {M M' : Addr → Prop} {H H' : Hp}
mutual
theorem Dat.to (k : ∀ a o, ¬ M a → H a = some o → H' a = some o) (m : ∀ a, M' a → M a ∨ H a = none) : ∀ (d : Dv) (v : V), Dat M H d v → Dat M' H' d v
  | .non, _, h => h
  | .bl _, _, h => h
  | .int _, _, h => h
  | .str _, _, h => h
  | .lst ds, v, h => by
    unfold Dat at h ⊢
    obtain ⟨a, vs, e, n, ha, hs⟩ := h
    exact ⟨a, vs, e, fun z => (m a z).elim n (fun q => by rw [ha] at q; cases q), k a _ n ha, Dats.to k m ds vs hs⟩
  | .tup ds, v, h => by
    unfold Dat at h ⊢
    obtain ⟨a, vs, e, n, ha, hs⟩ := h
    exact ⟨a, vs, e, fun z => (m a z).elim n (fun q => by rw [ha] at q; cases q), k a _ n ha, Dats.to k m ds vs hs⟩
  | .ins C ns ds, v, h => by
    unfold Dat at h ⊢
    obtain ⟨a, dx, vs, e, n, ha, hl, hs⟩ := h
    exact ⟨a, dx, vs, e, fun z => (m a z).elim n (fun q => by rw [ha] at q; cases q), k a _ n ha, hl, Dats.to k m ds vs hs⟩
  | .ty _, _, h => h
  | .cls _, _, h => h
  | .anyS, _, h => h
  | .dct ks ds, v, h => by
    unfold Dat at h ⊢
    obtain ⟨a, vs, e, n, ha, hl, hs⟩ := h
    exact ⟨a, vs, e, fun z => (m a z).elim n (fun q => by rw [ha] at q; cases q), k a _ n ha, hl, Dats.to k m ds vs hs⟩
  | .exc C ns ds, v, h => by
    unfold Dat at h ⊢
    obtain ⟨a, d, vs, e, n, n', ha, hd, hl, hs⟩ := h
    exact ⟨a, d, vs, e, fun z => (m a z).elim n (fun q => by rw [ha] at q; cases q), fun z => (m d z).elim n' (fun q => by rw [hd] at q; cases q), k a _ n ha, k d _ n' hd, hl, Dats.to k m ds vs hs⟩
  | .scr K ns, _, h => by
    unfold Dat at h ⊢
    obtain ⟨a, e, h⟩ := h
    refine ⟨a, e, h.imp (fun ⟨n, r⟩ => ?_) id⟩
    have hn : H a ≠ none := fun z => by
      rcases r with r | ⟨o, r⟩
      · rw [z] at r
        cases r
      · rw [z] at r
        cases r
    refine ⟨fun z => (m a z).elim n hn, ?_⟩
    rcases r with r | ⟨o, r⟩
    · exact .inl (k a _ n r)
    · exact .inr ⟨o, k a _ n r⟩
theorem Dats.to (k : ∀ a o, ¬ M a → H a = some o → H' a = some o) (m : ∀ a, M' a → M a ∨ H a = none) : ∀ (ds : List Dv) (vs : List V), Dats M H ds vs → Dats M' H' ds vs
  | [], _, h => h
  | d :: ds, vs, h => by
    unfold Dats at h ⊢
    obtain ⟨v, r, e, h1, h2⟩ := h
    exact ⟨v, r, e, Dat.to k m d v h1, Dats.to k m ds r h2⟩
end
theorem Dats.length : ∀ {ds : List Dv} {vs : List V}, Dats M H ds vs → vs.length = ds.length
  | [], vs, h => by unfold Dats at h; rw [h]; rfl
  | d :: ds, vs, h => by
    unfold Dats at h
    obtain ⟨v, r, e, _, h2⟩ := h
    rw [e, List.length_cons, List.length_cons, Dats.length h2]
theorem Dats.get : ∀ {ds : List Dv} {vs : List V} {i : Nat} {d : Dv}, Dats M H ds vs → ds[i]? = some d → ∃ v, vs[i]? = some v ∧ Dat M H d v
  | [], _, _, _, _, e => by simp at e
  | d :: ds, vs, 0, x, h, e => by
    unfold Dats at h
    obtain ⟨v, r, rfl, h1, _⟩ := h
    simp at e
    subst e
    exact ⟨v, rfl, h1⟩
  | d :: ds, vs, i + 1, x, h, e => by
    unfold Dats at h
    obtain ⟨v, r, rfl, _, h2⟩ := h
    exact Dats.get (i := i) h2 (by simpa using e)
theorem Dats.app : ∀ {ds es : List Dv} {vs ws : List V}, Dats M H ds vs → Dats M H es ws → Dats M H (ds ++ es) (vs ++ ws)
  | [], es, vs, ws, h, h' => by
    unfold Dats at h
    subst h
    exact h'
  | d :: ds, es, vs, ws, h, h' => by
    unfold Dats at h
    obtain ⟨v, r, rfl, h1, h2⟩ := h
    show Dats M H (d :: (ds ++ es)) (v :: (r ++ ws))
    unfold Dats
    exact ⟨v, r ++ ws, rfl, h1, Dats.app h2 h'⟩
theorem Dats.nil : Dats M H [] [] := by unfold Dats; rfl
theorem Dats.cons {d : Dv} {v : V} {ds : List Dv} {vs : List V} (h : Dat M H d v) (hs : Dats M H ds vs) : Dats M H (d :: ds) (v :: vs) := by
  unfold Dats
  exact ⟨v, vs, rfl, h, hs⟩
theorem Dats.one {d : Dv} {v : V} (h : Dat M H d v) : Dats M H [d] [v] := .cons h .nil
theorem Dats.take : ∀ {ds : List Dv} {vs : List V} (n : Nat), Dats M H ds vs → Dats M H (ds.take n) (vs.take n)
  | ds, vs, 0, _ => by simp; exact .nil
  | [], vs, n + 1, h => by
    unfold Dats at h
    subst h
    exact .nil
  | d :: ds, vs, n + 1, h => by
    unfold Dats at h
    obtain ⟨v, r, rfl, h1, h2⟩ := h
    exact .cons h1 (Dats.take n h2)
theorem Dats.drop : ∀ {ds : List Dv} {vs : List V} (n : Nat), Dats M H ds vs → Dats M H (ds.drop n) (vs.drop n)
  | ds, vs, 0, h => h
  | [], vs, n + 1, h => by
    unfold Dats at h
    subst h
    exact .nil
  | d :: ds, vs, n + 1, h => by
    unfold Dats at h
    obtain ⟨v, r, rfl, h1, h2⟩ := h
    exact Dats.drop n h2
theorem Dats.set : ∀ {ds : List Dv} {vs : List V} (i : Nat) {d : Dv} {v : V}, Dats M H ds vs → Dat M H d v → Dats M H (ds.set i d) (vs.set i v)
  | [], vs, i, d, v, h, _ => by
    unfold Dats at h
    subst h
    exact .nil
  | e :: ds, vs, 0, d, v, h, hd => by
    unfold Dats at h
    obtain ⟨w, r, rfl, h1, h2⟩ := h
    exact .cons hd h2
  | e :: ds, vs, i + 1, d, v, h, hd => by
    unfold Dats at h
    obtain ⟨w, r, rfl, h1, h2⟩ := h
    exact .cons h1 (Dats.set i h2 hd)
theorem Dats.rev : ∀ {ds : List Dv} {vs : List V}, Dats M H ds vs → Dats M H ds.reverse vs.reverse
  | [], vs, h => by
    unfold Dats at h
    subst h
    exact .nil
  | d :: ds, vs, h => by
    unfold Dats at h
    obtain ⟨v, r, rfl, h1, h2⟩ := h
    rw [List.reverse_cons, List.reverse_cons]
    exact (Dats.rev h2).app (.one h1)
theorem Dats.rep {ds : List Dv} {vs : List V} (h : Dats M H ds vs) : ∀ n : Nat, Dats M H (List.replicate n ds).flatten (List.replicate n vs).flatten
  | 0 => .nil
  | n + 1 => by
    rw [List.replicate_succ, List.replicate_succ, List.flatten_cons, List.flatten_cons]
    exact h.app (Dats.rep h n)
theorem Dats.dropLast {ds : List Dv} {vs : List V} (h : Dats M H ds vs) : Dats M H ds.dropLast vs.dropLast := by
  rw [List.dropLast_eq_take, List.dropLast_eq_take, h.length]
  exact h.take _
theorem Dats.ints : ∀ {ns : List Int} {vs : List V}, Dats M H (ns.map Dv.int) vs → vs = ns.map V.int
  | [], vs, h => by
    simp only [List.map_nil] at h
    unfold Dats at h
    exact h
  | n :: ns, vs, h => by
    simp only [List.map_cons] at h
    unfold Dats at h
    obtain ⟨v, r, rfl, h1, h2⟩ := h
    unfold Dat at h1
    subst h1
    rw [Dats.ints h2]
    rfl
theorem Dats.strs : ∀ {ns : List Str} {vs : List V}, Dats M H (ns.map Dv.str) vs → vs = ns.map V.str
  | [], vs, h => by
    simp only [List.map_nil] at h
    unfold Dats at h
    exact h
  | n :: ns, vs, h => by
    simp only [List.map_cons] at h
    unfold Dats at h
    obtain ⟨v, r, rfl, h1, h2⟩ := h
    unfold Dat at h1
    subst h1
    rw [Dats.strs h2]
    rfl
theorem Dats.ofInts : ∀ {ns : List Int}, Dats M H (ns.map Dv.int) (ns.map V.int)
  | [] => .nil
  | n :: ns => .cons (by unfold Dat; rfl) Dats.ofInts
end

mutual
/-- v reads as the data, by objects that are not in M; its lists are all in P -/
def PD (M P : Addr → Prop) (H : Hp) : Dv → V → Prop
  | .non, v => v = .non
  | .bl b, v => v = .bl b
  | .int i, v => v = .int i
  | .str s, v => v = .str s
  | .lst ds, v => ∃ a vs, v = .ref a ∧ ¬ M a ∧ P a ∧ H a = some (.lst vs) ∧ PDs M P H ds vs
  | .tup ds, v => ∃ a vs, v = .ref a ∧ ¬ M a ∧ H a = some (.tup vs) ∧ PDs M P H ds vs
  | _, _ => False
def PDs (M P : Addr → Prop) (H : Hp) : List Dv → List V → Prop
  | [], vs => vs = []
  | d :: ds, vs => ∃ v r, vs = v :: r ∧ PD M P H d v ∧ PDs M P H ds r
end
section
variable {M M' P P' : Addr → Prop} {H H' : Hp}
mutual
theorem PD.to (k : ∀ a o, ¬ M a → H a = some o → H' a = some o) (m : ∀ a, M' a → M a ∨ H a = none) (pp : ∀ a, P a → P' a) : ∀ (d : Dv) (v : V), PD M P H d v → PD M' P' H' d v
  | .non, _, h => by unfold PD at h ⊢; exact h
  | .bl _, _, h => by unfold PD at h ⊢; exact h
  | .int _, _, h => by unfold PD at h ⊢; exact h
  | .str _, _, h => by unfold PD at h ⊢; exact h
  | .lst ds, v, h => by
    unfold PD at h ⊢
    obtain ⟨a, vs, e, n, p, ha, hs⟩ := h
    exact ⟨a, vs, e, fun z => (m a z).elim n (fun q => by rw [ha] at q; cases q), pp a p, k a _ n ha, PDs.to k m pp ds vs hs⟩
  | .tup ds, v, h => by
    unfold PD at h ⊢
    obtain ⟨a, vs, e, n, ha, hs⟩ := h
    exact ⟨a, vs, e, fun z => (m a z).elim n (fun q => by rw [ha] at q; cases q), k a _ n ha, PDs.to k m pp ds vs hs⟩
  | .ins _ _ _, _, h => by unfold PD at h; exact h.elim
  | .ty _, _, h => by unfold PD at h; exact h.elim
  | .cls _, _, h => by unfold PD at h; exact h.elim
  | .anyS, _, h => by unfold PD at h; exact h.elim
  | .dct _ _, _, h => by unfold PD at h; exact h.elim
  | .exc _ _ _, _, h => by unfold PD at h; exact h.elim
  | .scr _ _, _, h => by unfold PD at h; exact h.elim
theorem PDs.to (k : ∀ a o, ¬ M a → H a = some o → H' a = some o) (m : ∀ a, M' a → M a ∨ H a = none) (pp : ∀ a, P a → P' a) : ∀ (ds : List Dv) (vs : List V), PDs M P H ds vs → PDs M' P' H' ds vs
  | [], _, h => by unfold PDs at h ⊢; exact h
  | d :: ds, vs, h => by
    unfold PDs at h ⊢
    obtain ⟨v, r, e, h1, h2⟩ := h
    exact ⟨v, r, e, PD.to k m pp d v h1, PDs.to k m pp ds r h2⟩
end
mutual
theorem PD.toDat : ∀ (d : Dv) (v : V), PD M P H d v → Dat M H d v
  | .non, _, h => by unfold PD at h; unfold Dat; exact h
  | .bl _, _, h => by unfold PD at h; unfold Dat; exact h
  | .int _, _, h => by unfold PD at h; unfold Dat; exact h
  | .str _, _, h => by unfold PD at h; unfold Dat; exact h
  | .lst ds, v, h => by
    unfold PD at h
    unfold Dat
    obtain ⟨a, vs, e, n, p, ha, hs⟩ := h
    exact ⟨a, vs, e, n, ha, PDs.toDat ds vs hs⟩
  | .tup ds, v, h => by
    unfold PD at h
    unfold Dat
    obtain ⟨a, vs, e, n, ha, hs⟩ := h
    exact ⟨a, vs, e, n, ha, PDs.toDat ds vs hs⟩
  | .ins _ _ _, _, h => by unfold PD at h; exact h.elim
  | .ty _, _, h => by unfold PD at h; exact h.elim
  | .cls _, _, h => by unfold PD at h; exact h.elim
  | .anyS, _, h => by unfold PD at h; exact h.elim
  | .dct _ _, _, h => by unfold PD at h; exact h.elim
  | .exc _ _ _, _, h => by unfold PD at h; exact h.elim
  | .scr _ _, _, h => by unfold PD at h; exact h.elim
theorem PDs.toDat : ∀ (ds : List Dv) (vs : List V), PDs M P H ds vs → Dats M H ds vs
  | [], _, h => by unfold PDs at h; unfold Dats; exact h
  | d :: ds, vs, h => by
    unfold PDs at h
    unfold Dats
    obtain ⟨v, r, e, h1, h2⟩ := h
    exact ⟨v, r, e, PD.toDat d v h1, PDs.toDat ds r h2⟩
end
end

/-! ### environments -/
inductive Slot where
  | non
  | dat (d : Dv)
  | own (io : Bool) (xs : List Dv)
  /-- a dict that only this slot holds -/
  | ownD (ks : List Key) (ds : List Dv)
  /-- data whose lists nobody else holds -/
  | prv (d : Dv)
abbrev DEnv := List Slot
/-- what a slot may own -/
inductive OK where
  | lst (b : Bool)
  | dct (ks : List Key)
def OK.slot : OK → List Dv → Slot
  | .lst b, xs => .own b xs
  | .dct ks, xs => .ownD ks xs
def OK.obj : OK → List V → HO
  | .lst _, vs => .lst vs
  | .dct ks, vs => .dK (ks.zip vs)
def OK.fit : OK → List Dv → Prop
  | .lst _, _ => True
  | .dct ks, xs => ks.length = xs.length
theorem OK.nodat {k : OK} {xs : List Dv} {d : Dv} (h : k.slot xs = .dat d) : False := by
  cases k <;> cases h
theorem OK.noprv {k : OK} {xs : List Dv} {d : Dv} (h : k.slot xs = .prv d) : False := by
  cases k <;> cases h
theorem OK.nonon {k : OK} {xs : List Dv} (h : k.slot xs = .non) : False := by
  cases k <;> cases h

/-- the context: addresses that nobody but their owners touch, the heap at the entry, the slot and address of the list that is handed in to be changed -/
structure DC where
  M0 : Addr → Prop
  H0 : Hp
  io : Option (Nat × Addr)
  /-- lists that a slot alone holds, with its data -/
  pv : Addr → Prop := fun _ => False
  pvm : ∀ a, pv a → M0 a ∧ (∀ i, io ≠ some (i, a)) ∧ H0 a = none := by exact fun _ h => h.elim

def W (env : DEnv) (σ : L2.St) (a : Addr) : Prop := ∃ (i : Nat) (b : OK) (xs : List Dv), env[i]? = some (b.slot xs) ∧ σ[i]? = some (some (.ref a))
def MM (C : DC) (env : DEnv) (σ : L2.St) (a : Addr) : Prop := C.M0 a ∨ W env σ a
def NM (C : DC) (env : DEnv) (σ : L2.St) (a : Addr) : Prop := MM C env σ a ∧ ¬ C.pv a

structure Rel (C : DC) (env : DEnv) (σ : L2.St) (H : Hp) : Prop where
  len : σ.length = env.length
  dat : ∀ (i : Nat) d, env[i]? = some (.dat d) → ∃ v, σ[i]? = some (some v) ∧ Dat (MM C env σ) H d v
  own : ∀ (i : Nat) (b : OK) xs, env[i]? = some (b.slot xs) → ∃ a vs, σ[i]? = some (some (.ref a)) ∧ H a = some (b.obj vs) ∧ Dats (MM C env σ) H xs vs
  fit : ∀ (i : Nat) (b : OK) xs, env[i]? = some (b.slot xs) → b.fit xs
  inj : ∀ (i j : Nat) (b c : OK) xs ys a, env[i]? = some (b.slot xs) → env[j]? = some (c.slot ys) → σ[i]? = some (some (.ref a)) → σ[j]? = some (some (.ref a)) → i = j
  io : ∀ (i : Nat) xs, env[i]? = some (.own true xs) → ∃ a, C.io = some (i, a)
  iob : ∀ i a, C.io = some (i, a) → C.M0 a ∧ ∃ xs, env[i]? = some (.own true xs) ∧ σ[i]? = some (some (.ref a))
  no : ∀ (i : Nat) (b : OK) xs a, b ≠ .lst true → env[i]? = some (b.slot xs) → σ[i]? = some (some (.ref a)) → C.H0 a = none ∧ ¬ C.M0 a
  keep : ∀ a o, (∀ i, C.io ≠ some (i, a)) → C.H0 a = some o → H a = some o
  mem : ∀ a, C.M0 a → H a ≠ none
  prv : ∀ (i : Nat) d, env[i]? = some (.prv d) → ∃ v, σ[i]? = some (some v) ∧ PD (NM C env σ) C.pv H d v

/-- what the environment becomes within an expression: nobody becomes an owner -/
def Sh (env env' : DEnv) : Prop := env'.length = env.length ∧ ∀ (i : Nat) (b : OK) xs, env'[i]? = some (b.slot xs) → ∃ ys, env[i]? = some (b.slot ys)
def Grow (env : DEnv) (σ : L2.St) (H H' : Hp) : Prop := ∀ a o, ¬ W env σ a → H a = some o → H' a = some o
theorem Sh.refl (env : DEnv) : Sh env env := ⟨rfl, fun _ _ xs h => ⟨xs, h⟩⟩
theorem Sh.trans {e1 e2 e3 : DEnv} (a : Sh e1 e2) (b : Sh e2 e3) : Sh e1 e3 := ⟨b.1.trans a.1, fun i c xs h => by
  obtain ⟨ys, h2⟩ := b.2 i c xs h
  exact a.2 i c ys h2⟩
theorem Sh.w {e1 e2 : DEnv} (s : Sh e1 e2) {σ : L2.St} {a : Addr} (h : W e2 σ a) : W e1 σ a := by
  obtain ⟨i, b, xs, h1, h2⟩ := h
  obtain ⟨ys, h3⟩ := s.2 i b xs h1
  exact ⟨i, b, ys, h3, h2⟩
theorem Sh.mm {C : DC} {e1 e2 : DEnv} (s : Sh e1 e2) {σ : L2.St} {a : Addr} (h : MM C e2 σ a) : MM C e1 σ a := h.imp id s.w
theorem Grow.refl (env : DEnv) (σ : L2.St) (H : Hp) : Grow env σ H H := fun _ _ _ h => h
theorem Grow.trans {e1 e2 : DEnv} {σ : L2.St} {H1 H2 H3 : Hp} (s : Sh e1 e2) (a : Grow e1 σ H1 H2) (b : Grow e2 σ H2 H3) : Grow e1 σ H1 H3 := fun x o n h => b x o (fun z => n (s.w z)) (a x o n h)
theorem Grow.dat {C : DC} {e1 e2 : DEnv} {σ : L2.St} {H1 H2 : Hp} (s : Sh e1 e2) (g : Grow e1 σ H1 H2) {d : Dv} {v : V} (h : Dat (MM C e1 σ) H1 d v) : Dat (MM C e2 σ) H2 d v :=
  h.to (fun a o n q => g a o (fun z => n (.inr z)) q) (fun a z => .inl (s.mm z))
theorem Grow.dats {C : DC} {e1 e2 : DEnv} {σ : L2.St} {H1 H2 : Hp} (s : Sh e1 e2) (g : Grow e1 σ H1 H2) {d : List Dv} {v : List V} (h : Dats (MM C e1 σ) H1 d v) : Dats (MM C e2 σ) H2 d v :=
  Dats.to (fun a o n q => g a o (fun z => n (.inr z)) q) (fun a z => .inl (s.mm z)) _ _ h

/-- what an expression gives: data, or what stands in a slot -/
inductive RV where
  | d (d : Dv)
  | v (i : Nat)
def RVr (C : DC) (env : DEnv) (σ : L2.St) (H : Hp) : RV → V → Prop
  | .d d, v => Dat (MM C env σ) H d v
  | .v i, v => σ[i]? = some (some v)
theorem RVr.step {C : DC} {e1 e2 : DEnv} {σ : L2.St} {H1 H2 : Hp} (s : Sh e1 e2) (g : Grow e1 σ H1 H2) : ∀ {rv : RV} {v : V}, RVr C e1 σ H1 rv v → RVr C e2 σ H2 rv v
  | .d _, _, h => g.dat s h
  | .v _, _, h => h
def RVs (C : DC) (env : DEnv) (σ : L2.St) (H : Hp) : List RV → List V → Prop
  | [], vs => vs = []
  | r :: rs, vs => ∃ v ws, vs = v :: ws ∧ RVr C env σ H r v ∧ RVs C env σ H rs ws
theorem RVs.step {C : DC} {e1 e2 : DEnv} {σ : L2.St} {H1 H2 : Hp} (s : Sh e1 e2) (g : Grow e1 σ H1 H2) : ∀ {rs : List RV} {vs : List V}, RVs C e1 σ H1 rs vs → RVs C e2 σ H2 rs vs
  | [], _, h => h
  | r :: rs, vs, h => by
    obtain ⟨v, ws, e, h1, h2⟩ := h
    exact ⟨v, ws, e, h1.step s g, RVs.step s g h2⟩

/-- the data of a result, where it is data -/
def val (env : DEnv) : RV → Option Dv
  | .d d => some d
  | .v i => match env[i]? with
    | some (.dat d) => some d
    | _ => none
/-- the items of a list -/
def seqL (env : DEnv) : RV → Option (List Dv)
  | .d (.lst xs) => some xs
  | .d _ => none
  | .v i => match env[i]? with
    | some (.dat (.lst xs)) => some xs
    | some (.own _ xs) => some xs
    | _ => none
/-- the data of a result; a list that was the slot's own is from now on data -/
def frz (env : DEnv) : RV → Option (Dv × DEnv)
  | .d d => some (d, env)
  | .v i => match env[i]? with
    | some (.dat d) => some (d, env)
    | some (.own false xs) => some (.lst xs, env.set i (.dat (.lst xs)))
    | some (.ownD ks ds) => some (.dct ks ds, env.set i (.dat (.dct ks ds)))
    | _ => none
/-- what it reads as, for a look -/
def look (env : DEnv) : RV → Option Dv
  | .d d => some d
  | .v i => match env[i]? with
    | some (.dat d) => some d
    | some (.own _ xs) => some (.lst xs)
    | some (.ownD ks ds) => some (.dct ks ds)
    | some (.prv d) => some d
    | _ => none

section
variable {C : DC} {env env' : DEnv} {σ : L2.St} {H H' : Hp} {v : V} {rv : RV}
theorem val_ok (R : Rel C env σ H) (r : RVr C env σ H rv v) {d : Dv} (h : val env rv = some d) : Dat (MM C env σ) H d v := by
  cases rv with
  | d x => cases h; exact r
  | v i =>
    simp only [val] at h
    split at h
    · rename_i x e
      cases h
      obtain ⟨u, h1, h2⟩ := R.dat i _ e
      have q : σ[i]? = some (some v) := r
      rw [h1] at q
      cases q
      exact h2
    · cases h
theorem seqL_ok (R : Rel C env σ H) (r : RVr C env σ H rv v) {xs : List Dv} (h : seqL env rv = some xs) : ∃ a vs, v = .ref a ∧ H a = some (.lst vs) ∧ Dats (MM C env σ) H xs vs := by
  cases rv with
  | d x =>
    cases x <;> simp only [seqL] at h <;> cases h
    have q : Dat (MM C env σ) H (.lst _) v := r
    unfold Dat at q
    obtain ⟨a, vs, e, _, ha, hs⟩ := q
    exact ⟨a, vs, e, ha, hs⟩
  | v i =>
    have r : σ[i]? = some (some v) := r
    simp only [seqL] at h
    split at h
    · rename_i x e
      cases h
      obtain ⟨u, h1, h2⟩ := R.dat i _ e
      rw [h1] at r
      cases r
      unfold Dat at h2
      obtain ⟨a, vs, e, _, ha, hs⟩ := h2
      exact ⟨a, vs, e, ha, hs⟩
    · rename_i x e
      cases h
      obtain ⟨a, vs, h1, ha, hs⟩ := R.own i (.lst _) _ e
      rw [h1] at r
      cases r
      exact ⟨a, vs, rfl, ha, hs⟩
    · cases h
/-- as data of a smaller set of kept addresses -/
theorem look_ok (R : Rel C env σ H) (r : RVr C env σ H rv v) {d : Dv} (h : look env rv = some d) : Dat (fun _ => False) H d v := by
  cases rv with
  | d x =>
    have r : Dat (MM C env σ) H x v := r
    cases h
    exact Dat.to (fun a o _ q => q) (fun _ z => z.elim) _ _ r
  | v i =>
    have r : σ[i]? = some (some v) := r
    simp only [look] at h
    split at h
    · rename_i x e
      cases h
      obtain ⟨u, h1, h2⟩ := R.dat i _ e
      rw [h1] at r
      cases r
      exact Dat.to (fun a o _ q => q) (fun _ z => z.elim) _ _ h2
    · rename_i x e
      cases h
      obtain ⟨a, vs, h1, ha, hs⟩ := R.own i (.lst _) _ e
      rw [h1] at r
      cases r
      unfold Dat
      exact ⟨a, vs, rfl, id, ha, Dats.to (fun a o _ q => q) (fun _ z => z.elim) _ _ hs⟩
    · rename_i ks ds e
      cases h
      have fit : ks.length = ds.length := R.fit i (.dct ks) ds e
      obtain ⟨a, vs, h1, ha, hs⟩ := R.own i (.dct ks) ds e
      rw [h1] at r
      cases r
      unfold Dat
      exact ⟨a, vs, rfl, id, ha, fit, Dats.to (fun a o _ q => q) (fun _ z => z.elim) _ _ hs⟩
    · rename_i x e
      cases h
      obtain ⟨u, h1, h2⟩ := R.prv i _ e
      rw [h1] at r
      cases r
      exact Dat.to (fun a o _ q => q) (fun _ z => z.elim) _ _ (PD.toDat _ _ h2)
    · cases h
/-- a list that one slot alone holds is nobody's own -/
theorem Rel.pvW (R : Rel C env σ H) {a : Addr} (h : C.pv a) : ¬ W env σ a := by
  rintro ⟨i, b, xs, h1, h2⟩
  by_cases hb : b = .lst true
  case neg => exact (R.no i b xs a hb h1 h2).2 (C.pvm a h).1
  case pos =>
    subst hb
    obtain ⟨a', e⟩ := R.io i xs h1
    obtain ⟨_, ys, h3, h4⟩ := R.iob i a' e
    rw [h2] at h4
    cases h4
    exact (C.pvm a h).2.1 i e
theorem Rel.nmW (R : Rel C env σ H) {a : Addr} (h : ¬ NM C env σ a) : ¬ W env σ a := fun z => by
  by_cases q : C.pv a
  · exact R.pvW q z
  · exact h ⟨.inr z, q⟩
/-- what one slot alone holds stays -/
theorem Rel.prvTo (R : Rel C env σ H) {C' : DC} {env' : DEnv} {σ' : L2.St} {H' : Hp} (pe : C'.pv = C.pv) (e : ∀ (i : Nat) d, env'[i]? = some (.prv d) → env[i]? = some (.prv d) ∧ σ'[i]? = σ[i]?)
    (k : ∀ a o, ¬ NM C env σ a → H a = some o → H' a = some o) (m : ∀ a, MM C' env' σ' a → MM C env σ a ∨ H a = none) : ∀ (i : Nat) d, env'[i]? = some (.prv d) → ∃ v, σ'[i]? = some (some v) ∧ PD (NM C' env' σ') C'.pv H' d v := fun i d h => by
  obtain ⟨h1, h2⟩ := e i d h
  obtain ⟨v, h3, h4⟩ := R.prv i d h1
  refine ⟨v, by rw [h2]; exact h3, PD.to k (fun a z => ?_) (fun a z => by rw [pe]; exact z) _ _ h4⟩
  rcases m a z.1 with q | q
  · exact .inl ⟨q, by rw [← pe]; exact z.2⟩
  · exact .inr q
end
end DL

set_option Elab.async false
set_option linter.all false
set_option maxRecDepth 100000
set_option maxHeartbeats 4000000
namespace DL
open PySem L2

/-! ### steps of the state -/
section
variable {C : DC} {env env' : DEnv} {σ : L2.St} {H H' : Hp} {v : V} {rv : RV} {p a : Addr} {o : HO}
theorem Grow.new (h : H p = none) : Grow env σ H (upd H p o) := fun a u _ e => by
  rw [upd_ne (ne_of_none e h)]
  exact e
theorem Rel.alloc (R : Rel C env σ H) (h : H p = none) : Rel C env σ (upd H p o) where
  len := R.len
  dat := fun i d e => by
    obtain ⟨v, h1, h2⟩ := R.dat i d e
    exact ⟨v, h1, h2.to (fun a u _ q => by rw [upd_ne (ne_of_none q h)]; exact q) fun _ z => .inl z⟩
  own := fun i b xs e => by
    obtain ⟨a, vs, h1, h2, h3⟩ := R.own i b xs e
    exact ⟨a, vs, h1, by rw [upd_ne (ne_of_none h2 h)]; exact h2, Dats.to (fun a u _ q => by rw [upd_ne (ne_of_none q h)]; exact q) (fun _ z => .inl z) _ _ h3⟩
  fit := R.fit
  inj := R.inj
  io := R.io
  iob := R.iob
  no := R.no
  keep := fun a u n e => by
    have q := R.keep a u n e
    rw [upd_ne (ne_of_none q h)]
    exact q
  mem := fun a m => by
    have q := R.mem a m
    by_cases e : a = p
    · rw [e, upd_same]
      intro z
      cases z
    · rw [upd_ne e]
      exact q
  prv := R.prvTo rfl (fun _ _ z => ⟨z, rfl⟩) (fun a u _ q => by rw [upd_ne (ne_of_none q h)]; exact q) (fun _ z => .inl z)
/-- a new address is none of the kept ones -/
theorem Rel.fresh (R : Rel C env σ H) (h : H p = none) : ¬ MM C env σ p := by
  rintro (z | ⟨i, b, xs, h1, h2⟩)
  · exact R.mem p z h
  · obtain ⟨a, vs, h3, h4, _⟩ := R.own i b xs h1
    rw [h2] at h3
    cases h3
    rw [h] at h4
    cases h4
theorem Rel.h0 (R : Rel C env σ H) (h : H p = none) : C.H0 p = none := by
  cases q : C.H0 p with
  | none => rfl
  | some o =>
    have z : ∀ i, C.io ≠ some (i, p) := fun i e => R.mem p (R.iob i p e).1 h
    rw [R.keep p o z q] at h
    cases h
/-- an address that is new stays apart -/
def DC.plus (C : DC) (p : Addr) : DC := { C with M0 := fun a => C.M0 a ∨ a = p, pvm := fun a h => ⟨.inl (C.pvm a h).1, (C.pvm a h).2⟩ }
theorem Rel.plus (R : Rel C env σ H) (h : H p = none) (o : HO) : Rel (C.plus p) env σ (upd H p o) where
  len := R.len
  dat := fun i d e => by
    obtain ⟨v, h1, h2⟩ := R.dat i d e
    refine ⟨v, h1, h2.to (fun a u _ q => by rw [upd_ne (ne_of_none q h)]; exact q) fun a z => ?_⟩
    rcases z with (z | z) | z
    · exact .inl (.inl z)
    · exact .inr (z ▸ h)
    · exact .inl (.inr z)
  own := fun i b xs e => by
    obtain ⟨a, vs, h1, h2, h3⟩ := R.own i b xs e
    refine ⟨a, vs, h1, by rw [upd_ne (ne_of_none h2 h)]; exact h2, Dats.to (fun a u _ q => by rw [upd_ne (ne_of_none q h)]; exact q) (fun a z => ?_) _ _ h3⟩
    rcases z with (z | z) | z
    · exact .inl (.inl z)
    · exact .inr (z ▸ h)
    · exact .inl (.inr z)
  fit := R.fit
  inj := R.inj
  io := R.io
  iob := fun i a e => ⟨.inl (R.iob i a e).1, (R.iob i a e).2⟩
  no := fun i k xs a nk e1 e2 => ⟨(R.no i k xs a nk e1 e2).1, fun z => z.elim (R.no i k xs a nk e1 e2).2 fun q => by
    obtain ⟨b, vs, h1, h2, _⟩ := R.own i _ _ e1
    rw [h1] at e2
    cases e2
    rw [q, h] at h2
    cases h2⟩
  keep := (R.alloc (o := o) h).keep
  mem := fun a m => by
    rcases m with m | m
    · exact (R.alloc (o := o) h).mem a m
    · rw [m, upd_same]
      intro z
      cases z
  prv := R.prvTo rfl (fun _ _ z => ⟨z, rfl⟩) (fun a u _ q => by rw [upd_ne (ne_of_none q h)]; exact q) (fun a z => by
    rcases z with (z | z) | z
    · exact .inl (.inl z)
    · exact .inr (z ▸ h)
    · exact .inl (.inr z))
theorem Rel.unplus (R : Rel (C.plus p) env σ H) (hio : ∀ i a, C.io = some (i, a) → C.M0 a) : Rel C env σ H where
  len := R.len
  dat := fun i d e => by
    obtain ⟨v, h1, h2⟩ := R.dat i d e
    exact ⟨v, h1, h2.to (fun a u _ q => q) fun a z => .inl (z.elim (fun z => .inl (.inl z)) .inr)⟩
  own := fun i b xs e => by
    obtain ⟨a, vs, h1, h2, h3⟩ := R.own i b xs e
    exact ⟨a, vs, h1, h2, Dats.to (fun a u _ q => q) (fun a z => .inl (z.elim (fun z => .inl (.inl z)) .inr)) _ _ h3⟩
  fit := R.fit
  inj := R.inj
  io := R.io
  iob := fun i a e => ⟨hio i a e, (R.iob i a e).2⟩
  no := fun i k xs a nk e1 e2 => ⟨(R.no i k xs a nk e1 e2).1, fun z => (R.no i k xs a nk e1 e2).2 (.inl z)⟩
  keep := R.keep
  mem := fun a m => R.mem a (.inl m)
  prv := R.prvTo rfl (fun _ _ z => ⟨z, rfl⟩) (fun _ _ _ q => q) (fun a z => .inl (z.elim (fun z => .inl (.inl z)) .inr))
theorem Rel.hio (R : Rel C env σ H) : ∀ i a, C.io = some (i, a) → C.M0 a := fun i a e => (R.iob i a e).1
/-- the plus address is nobody's -/
theorem Rel.plusW (R : Rel (C.plus p) env σ H) (hio : ∀ i a, C.io = some (i, a) → a ≠ p) : ¬ W env σ p := by
  rintro ⟨i, b, xs, h1, h2⟩
  by_cases hb : b = .lst true
  case neg => exact (R.no i b xs p hb h1 h2).2 (.inr rfl)
  case pos =>
    subst hb
    obtain ⟨a, e⟩ := R.io i xs h1
    obtain ⟨_, ys, h3, h4⟩ := R.iob i a e
    rw [h2] at h4
    cases h4
    exact hio i p e rfl
theorem mm_plus {a : Addr} (z : MM C env σ a) : MM (C.plus p) env σ a := z.imp .inl id
/-- what is read stays when the environment's content alone changes -/
theorem frz_ok (R : Rel C env σ H) (r : RVr C env σ H rv v) {d : Dv} (h : frz env rv = some (d, env')) : Rel C env' σ H ∧ Sh env env' ∧ Dat (MM C env' σ) H d v := by
  cases rv with
  | d x =>
    simp only [frz] at h
    cases h
    exact ⟨R, Sh.refl _, r⟩
  | v i =>
    have r : σ[i]? = some (some v) := r
    simp only [frz] at h
    split at h
    · rename_i x e
      cases h
      obtain ⟨u, h1, h2⟩ := R.dat i _ e
      rw [h1] at r
      cases r
      exact ⟨R, Sh.refl _, h2⟩
    · rename_i xs e
      cases h
      obtain ⟨a, vs, h1, ha, hs⟩ := R.own i (.lst false) _ e
      rw [h1] at r
      cases r
      have hi : i < env.length := (List.getElem?_eq_some_iff.mp e).1
      have eq : ∀ j s, (env.set i (Slot.dat (Dv.lst xs)))[j]? = some s → (j = i ∧ s = Slot.dat (Dv.lst xs)) ∨ (j ≠ i ∧ env[j]? = some s) := fun j s q => by
        by_cases z : i = j
        · subst z
          rw [List.getElem?_set_self hi] at q
          exact .inl ⟨rfl, (Option.some.inj q).symm⟩
        · rw [List.getElem?_set_ne z] at q
          exact .inr ⟨fun w => z w.symm, q⟩
      have own : ∀ (j : Nat) (b : OK) ys, (env.set i (Slot.dat (Dv.lst xs)))[j]? = some (b.slot ys) → j ≠ i ∧ env[j]? = some (b.slot ys) := fun j b ys q => by
        rcases eq j _ q with ⟨_, z⟩ | z
        · exact (OK.nodat z).elim
        · exact z
      have sh : Sh env (env.set i (Slot.dat (Dv.lst xs))) := ⟨List.length_set .., fun j b ys q => ⟨ys, (own j b ys q).2⟩⟩
      have na : ¬ MM C (env.set i (Slot.dat (Dv.lst xs))) σ a := by
        rintro (z | ⟨j, b, ys, h3, h4⟩)
        · exact (R.no i (.lst false) xs a (by intro z; cases z) e h1).2 z
        · obtain ⟨n, h5⟩ := own j b ys h3
          exact n (R.inj j i _ (.lst false) _ xs a h5 e h4 h1)
      have dd : Dat (MM C (env.set i (Slot.dat (Dv.lst xs))) σ) H (.lst xs) (.ref a) := by
        unfold Dat
        exact ⟨a, vs, rfl, na, ha, (Grow.refl _ _ _).dats sh hs⟩
      refine ⟨⟨by rw [List.length_set]; exact R.len, fun j d q => ?_, fun j b ys q => ?_, fun j b ys q => R.fit j b ys (own j b ys q).2, fun j k b c ys zs x q1 q2 => R.inj j k b c ys zs x (own j _ _ q1).2 (own k _ _ q2).2, fun j ys q => R.io j ys (own j (.lst true) _ q).2,
        fun j x q => ?_, fun j b ys x nb q => R.no j b ys x nb (own j _ _ q).2, R.keep, R.mem, R.prvTo rfl (fun j d q => ⟨by
          rcases eq j _ q with ⟨_, z⟩ | ⟨_, z⟩
          · cases z
          · exact z, rfl⟩) (fun _ _ _ q => q) (fun a z => .inl (sh.mm z))⟩, sh, dd⟩
      · rcases eq j _ q with ⟨rfl, z⟩ | ⟨_, z⟩
        · cases z
          exact ⟨_, h1, dd⟩
        · obtain ⟨u, h3, h4⟩ := R.dat j d z
          exact ⟨u, h3, (Grow.refl _ _ _).dat sh h4⟩
      · obtain ⟨x, ws, h3, h4, h5⟩ := R.own j b ys (own j b ys q).2
        exact ⟨x, ws, h3, h4, (Grow.refl _ _ _).dats sh h5⟩
      · obtain ⟨h3, ys, h4, h5⟩ := R.iob j x q
        have n : j ≠ i := fun z => by
          subst z
          rw [e] at h4
          cases h4
        exact ⟨h3, ys, by rw [List.getElem?_set_ne (fun z => n z.symm)]; exact h4, h5⟩
    · rename_i ks ds e
      cases h
      have fit : ks.length = ds.length := R.fit i (.dct ks) ds e
      obtain ⟨a, vs, h1, ha, hs⟩ := R.own i (.dct ks) ds e
      rw [h1] at r
      cases r
      have hi : i < env.length := (List.getElem?_eq_some_iff.mp e).1
      have eq : ∀ j s, (env.set i (Slot.dat (Dv.dct ks ds)))[j]? = some s → (j = i ∧ s = Slot.dat (Dv.dct ks ds)) ∨ (j ≠ i ∧ env[j]? = some s) := fun j s q => by
        by_cases z : i = j
        · subst z
          rw [List.getElem?_set_self hi] at q
          exact .inl ⟨rfl, (Option.some.inj q).symm⟩
        · rw [List.getElem?_set_ne z] at q
          exact .inr ⟨fun w => z w.symm, q⟩
      have own : ∀ (j : Nat) (b : OK) ys, (env.set i (Slot.dat (Dv.dct ks ds)))[j]? = some (b.slot ys) → j ≠ i ∧ env[j]? = some (b.slot ys) := fun j b ys q => by
        rcases eq j _ q with ⟨_, z⟩ | z
        · exact (OK.nodat z).elim
        · exact z
      have sh : Sh env (env.set i (Slot.dat (Dv.dct ks ds))) := ⟨List.length_set .., fun j b ys q => ⟨ys, (own j b ys q).2⟩⟩
      have na : ¬ MM C (env.set i (Slot.dat (Dv.dct ks ds))) σ a := by
        rintro (z | ⟨j, b, ys, h3, h4⟩)
        · exact (R.no i (.dct ks) ds a (by intro z; cases z) e h1).2 z
        · obtain ⟨n, h5⟩ := own j b ys h3
          exact n (R.inj j i _ (.dct ks) _ ds a h5 e h4 h1)
      have dd : Dat (MM C (env.set i (Slot.dat (Dv.dct ks ds))) σ) H (.dct ks ds) (.ref a) := by
        unfold Dat
        exact ⟨a, vs, rfl, na, ha, fit, (Grow.refl _ _ _).dats sh hs⟩
      refine ⟨⟨by rw [List.length_set]; exact R.len, fun j d q => ?_, fun j b ys q => ?_, fun j b ys q => R.fit j b ys (own j b ys q).2, fun j k b c ys zs x q1 q2 => R.inj j k b c ys zs x (own j _ _ q1).2 (own k _ _ q2).2, fun j ys q => R.io j ys (own j (.lst true) _ q).2,
        fun j x q => ?_, fun j b ys x nb q => R.no j b ys x nb (own j _ _ q).2, R.keep, R.mem, R.prvTo rfl (fun j d q => ⟨by
          rcases eq j _ q with ⟨_, z⟩ | ⟨_, z⟩
          · cases z
          · exact z, rfl⟩) (fun _ _ _ q => q) (fun a z => .inl (sh.mm z))⟩, sh, dd⟩
      · rcases eq j _ q with ⟨rfl, z⟩ | ⟨_, z⟩
        · cases z
          exact ⟨_, h1, dd⟩
        · obtain ⟨u, h3, h4⟩ := R.dat j d z
          exact ⟨u, h3, (Grow.refl _ _ _).dat sh h4⟩
      · obtain ⟨x, ws, h3, h4, h5⟩ := R.own j b ys (own j b ys q).2
        exact ⟨x, ws, h3, h4, (Grow.refl _ _ _).dats sh h5⟩
      · obtain ⟨h3, ys, h4, h5⟩ := R.iob j x q
        have n : j ≠ i := fun z => by
          subst z
          rw [e] at h4
          cases h4
        exact ⟨h3, ys, by rw [List.getElem?_set_ne (fun z => n z.symm)]; exact h4, h5⟩
    · cases h
/-- what a slot owns gets another content -/
theorem Rel.putO (R : Rel C env σ H) {i : Nat} {b b' : OK} {xs ys : List Dv} {ws : List V} (e : env[i]? = some (b.slot xs)) (kk : b' = .lst true ↔ b = .lst true) (fit : b'.fit ys) (h1 : σ[i]? = some (some (.ref a))) (hs : Dats (MM C env σ) H ys ws) :
    Rel C (env.set i (b'.slot ys)) σ (upd H a (b'.obj ws)) ∧ (∀ x, W (env.set i (b'.slot ys)) σ x → W env σ x) ∧ Grow env σ H (upd H a (b'.obj ws)) := by
  have hi : i < env.length := (List.getElem?_eq_some_iff.mp e).1
  have eq : ∀ j s, (env.set i (b'.slot ys))[j]? = some s → (j = i ∧ s = b'.slot ys) ∨ (j ≠ i ∧ env[j]? = some s) := fun j s q => by
    by_cases z : i = j
    · subst z
      rw [List.getElem?_set_self hi] at q
      exact .inl ⟨rfl, (Option.some.inj q).symm⟩
    · rw [List.getElem?_set_ne z] at q
      exact .inr ⟨fun w => z w.symm, q⟩
  have own : ∀ (j : Nat) (c : OK) zs, (env.set i (b'.slot ys))[j]? = some (c.slot zs) → ∃ (c' : OK) (zs' : List Dv), env[j]? = some (c'.slot zs') ∧ (c' = .lst true ↔ c = .lst true) := fun j c zs q => by
    rcases eq j _ q with ⟨z, w⟩ | ⟨_, z⟩
    · have : c = b' := by
        cases c <;> cases b' <;> simp only [OK.slot, Slot.own.injEq, Slot.ownD.injEq, reduceCtorEq] at w
        · rw [w.1]
        · rw [w.1]
      exact ⟨b, xs, z ▸ e, by rw [this, kk]⟩
    · exact ⟨c, zs, z, Iff.rfl⟩
  have wa : W env σ a := ⟨i, b, xs, e, h1⟩
  have wi : ∀ x, W (env.set i (b'.slot ys)) σ x → W env σ x := fun x ⟨j, c, zs, q1, q2⟩ => by
    obtain ⟨c', zs', q3, _⟩ := own j c zs q1
    exact ⟨j, c', zs', q3, q2⟩
  have mi : ∀ x, MM C (env.set i (b'.slot ys)) σ x → MM C env σ x := fun x z => z.imp id (wi x)
  have g : Grow env σ H (upd H a (b'.obj ws)) := fun x o n q => by
    have nx : x ≠ a := fun z => n (by rw [z]; exact wa)
    rw [upd_ne nx]
    exact q
  have gd : ∀ d v, Dat (MM C env σ) H d v → Dat (MM C (env.set i (b'.slot ys)) σ) (upd H a (b'.obj ws)) d v := fun d v h => h.to (fun x o n q => g x o (fun z => n (.inr z)) q) fun x z => .inl (mi x z)
  have gds : ∀ d v, Dats (MM C env σ) H d v → Dats (MM C (env.set i (b'.slot ys)) σ) (upd H a (b'.obj ws)) d v := fun d v h => Dats.to (fun x o n q => g x o (fun z => n (.inr z)) q) (fun x z => .inl (mi x z)) _ _ h
  obtain ⟨a', vs, h1', ha, _⟩ := R.own i _ _ e
  rw [h1] at h1'
  cases h1'
  refine ⟨⟨by rw [List.length_set]; exact R.len, fun j d q => ?_, fun j c zs q => ?_, fun j c zs q => ?_, fun j k c c' zs zs' x q1 q2 h3 h4 => ?_, fun j zs q => ?_, fun j x q => ?_, fun j c zs x nc q h3 => ?_, fun x o n q => ?_, fun x m => ?_, R.prvTo rfl (fun j d q => ⟨by
      rcases eq j _ q with ⟨_, z⟩ | ⟨_, z⟩
      · exact (OK.noprv z.symm).elim
      · exact z, rfl⟩) (fun x o n q => g x o (R.nmW n) q) (fun x z => .inl (mi x z))⟩, wi, g⟩
  · rcases eq j _ q with ⟨_, z⟩ | ⟨_, z⟩
    · exact (OK.nodat z.symm).elim
    · obtain ⟨u, h3, h4⟩ := R.dat j d z
      exact ⟨u, h3, gd _ _ h4⟩
  · rcases eq j _ q with ⟨z, w⟩ | ⟨n, z⟩
    · have e2 : c = b' ∧ zs = ys := by
        cases c <;> cases b' <;> simp only [OK.slot, Slot.own.injEq, Slot.ownD.injEq, reduceCtorEq] at w
        · exact ⟨by rw [w.1], w.2⟩
        · exact ⟨by rw [w.1], w.2⟩
      obtain ⟨rfl, rfl⟩ := e2
      subst z
      exact ⟨a, ws, h1, upd_same, gds _ _ hs⟩
    · obtain ⟨x, us, h3, h4, h5⟩ := R.own j c zs z
      have nx : x ≠ a := fun w => n (R.inj j i c b zs xs a z e (w ▸ h3) h1)
      exact ⟨x, us, h3, by rw [upd_ne nx]; exact h4, gds _ _ h5⟩
  · rcases eq j _ q with ⟨z, w⟩ | ⟨n, z⟩
    · have e2 : c = b' ∧ zs = ys := by
        cases c <;> cases b' <;> simp only [OK.slot, Slot.own.injEq, Slot.ownD.injEq, reduceCtorEq] at w
        · exact ⟨by rw [w.1], w.2⟩
        · exact ⟨by rw [w.1], w.2⟩
      obtain ⟨rfl, rfl⟩ := e2
      exact fit
    · exact R.fit j c zs z
  · obtain ⟨d1, y1, z1, _⟩ := own j _ _ q1
    obtain ⟨d2, y2, z2, _⟩ := own k _ _ q2
    exact R.inj j k _ _ _ _ x z1 z2 h3 h4
  · obtain ⟨d1, y1, z1, z2⟩ := own j (.lst true) _ q
    obtain rfl := z2.mpr rfl
    exact R.io j _ z1
  · obtain ⟨h3, zs, h4, h5⟩ := R.iob j x q
    by_cases z : i = j
    · subst z
      have hb : b = .lst true := by
        rw [e] at h4
        have h4 := Option.some.inj h4
        cases b <;> simp only [OK.slot, Slot.own.injEq, reduceCtorEq] at h4
        rw [h4.1]
      obtain rfl := kk.mpr hb
      exact ⟨h3, ys, List.getElem?_set_self hi, h5⟩
    · exact ⟨h3, zs, by rw [List.getElem?_set_ne z]; exact h4, h5⟩
  · obtain ⟨d1, y1, z1, z2⟩ := own j _ _ q
    exact R.no j d1 _ x (fun w => nc (z2.mp w)) z1 h3
  · have q' := R.keep x o n q
    by_cases z : x = a
    · subst z
      by_cases hb : b = .lst true
      · subst hb
        obtain ⟨y, w⟩ := R.io i xs e
        obtain ⟨_, _, _, h5⟩ := R.iob i y w
        rw [h1] at h5
        cases h5
        exact absurd w (n i)
      · rw [(R.no i b xs x hb e h1).1] at q
        cases q
    · rw [upd_ne z]
      exact q'
  · by_cases z : x = a
    · rw [z, upd_same]
      intro w
      cases w
    · rw [upd_ne z]
      exact R.mem x m
/-- a list that a slot owns gets another content -/
theorem Rel.put (R : Rel C env σ H) {i : Nat} {b : Bool} {xs ys : List Dv} {ws : List V} (e : env[i]? = some (.own b xs)) (h1 : σ[i]? = some (some (.ref a))) (hs : Dats (MM C env σ) H ys ws) :
    Rel C (env.set i (.own b ys)) σ (upd H a (.lst ws)) ∧ Sh env (env.set i (.own b ys)) ∧ Grow env σ H (upd H a (.lst ws)) := by
  obtain ⟨r, _, g⟩ := R.putO (b := .lst b) (b' := .lst b) (xs := xs) (ys := ys) e Iff.rfl trivial h1 hs
  refine ⟨r, ⟨List.length_set .., fun j c zs q => ?_⟩, g⟩
  have hi : i < env.length := (List.getElem?_eq_some_iff.mp e).1
  by_cases z : i = j
  · subst z
    rw [List.getElem?_set_self hi] at q
    have q := Option.some.inj q
    cases c <;> simp only [OK.slot, Slot.own.injEq, reduceCtorEq] at q
    obtain ⟨rfl, rfl⟩ := q
    exact ⟨xs, e⟩
  · rw [List.getElem?_set_ne z] at q
    exact ⟨zs, q⟩
end

/-! ### the judgements -/
abbrev EF := DEnv → Option (RV × DEnv)
abbrev TF := DEnv → Option (Bool × DEnv)
abbrev AF := DEnv → Option (List RV × DEnv)
def RE (t : TE) (f : EF) : Prop := ∀ (C : DC) (env : DEnv) (σ : L2.St) (H : Hp) (Q : VK) (rv : RV) (env' : DEnv), f env = some (rv, env') → Rel C env σ H →
  (∀ v H', Rel C env' σ H' → Sh env env' → Grow env σ H H' → RVr C env' σ H' rv v → Q v H') → t σ H Q
def RT (t : TT) (f : TF) : Prop := ∀ (C : DC) (env : DEnv) (σ : L2.St) (H : Hp) (Q : Bool → Hp → Prop) (b : Bool) (env' : DEnv), f env = some (b, env') → Rel C env σ H →
  (∀ H', Rel C env' σ H' → Sh env env' → Grow env σ H H' → Q b H') → t σ H Q
def RA (t : TA) (f : AF) : Prop := ∀ (C : DC) (env : DEnv) (σ : L2.St) (H : Hp) (Q : List V → Hp → Prop) (rs : List RV) (env' : DEnv), f env = some (rs, env') → Rel C env σ H →
  (∀ vs H', Rel C env' σ H' → Sh env env' → Grow env σ H H' → RVs C env' σ H' rs vs → Q vs H') → t σ H Q
/-- an operation on two values -/
def RB (r : R2) (g : DEnv → RV → RV → Option RV) : Prop := ∀ (C : DC) (env : DEnv) (σ : L2.St) (H : Hp) (Q : VK) (x y : RV) (vx vy : V) (z : RV), g env x y = some z → Rel C env σ H → RVr C env σ H x vx → RVr C env σ H y vy →
  (∀ v H', Rel C env σ H' → Grow env σ H H' → RVr C env σ H' z v → Q v H') → r vx vy H Q
def RU (r : V → Hp → VK → Prop) (g : DEnv → RV → Option RV) : Prop := ∀ (C : DC) (env : DEnv) (σ : L2.St) (H : Hp) (Q : VK) (x : RV) (vx : V) (z : RV), g env x = some z → Rel C env σ H → RVr C env σ H x vx →
  (∀ v H', Rel C env σ H' → Grow env σ H H' → RVr C env σ H' z v → Q v H') → r vx H Q
/-- a call on values -/
def RC (r : List V → Hp → VK → Prop) (g : DEnv → List RV → Option RV) : Prop := ∀ (C : DC) (env : DEnv) (σ : L2.St) (H : Hp) (Q : VK) (xs : List RV) (vs : List V) (z : RV), g env xs = some z → Rel C env σ H → RVs C env σ H xs vs →
  (∀ v H', Rel C env σ H' → Grow env σ H H' → RVr C env σ H' z v → Q v H') → r vs H Q

/-! ### evaluators -/
def fVar (i : Nat) : EF := fun env => match env[i]? with
  | some .non => none
  | none => none
  | _ => some (.v i, env)
def fC (d : Dv) : EF := fun env => some (.d d, env)
def fOp (g : DEnv → RV → RV → Option RV) (fa fb : EF) : EF := fun env => (fa env).bind fun p => (fb p.2).bind fun q => (g q.2 p.1 q.1).map fun z => (z, q.2)
def fUn (g : DEnv → RV → Option RV) (fa : EF) : EF := fun env => (fa env).bind fun p => (g p.2 p.1).map fun z => (z, p.2)
def fNil : AF := fun env => some ([], env)
def fCons (fa : EF) (fr : AF) : AF := fun env => (fa env).bind fun p => (fr p.2).map fun q => (p.1 :: q.1, q.2)
def fCB (g : DEnv → List RV → Option RV) (fa : AF) : EF := fun env => (fa env).bind fun p => (g p.2 p.1).map fun z => (z, p.2)
def fIf (ft : TF) (fa fb : EF) : EF := fun env => (ft env).bind fun p => if p.1 = true then fa p.2 else fb p.2
def asB (env : DEnv) (rv : RV) : Option Bool := match val env rv with
  | some (.bl b) => some b
  | _ => none
def fTest (fa : EF) : TF := fun env => (fa env).bind fun p => (asB p.2 p.1).map fun b => (b, p.2)
def fAnd (f g : TF) : TF := fun env => (f env).bind fun p => if p.1 = true then g p.2 else some (false, p.2)
def fOr (f g : TF) : TF := fun env => (f env).bind fun p => if p.1 = true then some (true, p.2) else g p.2
def fNot (f : TF) : TF := fun env => (f env).map fun p => (!p.1, p.2)
def fAndV (fa fb : EF) : EF := fun env => (fa env).bind fun p => (asB p.2 p.1).bind fun b => if b = true then fb p.2 else some (.d (.bl false), p.2)
def fOrV (fa fb : EF) : EF := fun env => (fa env).bind fun p => (asB p.2 p.1).bind fun b => if b = true then some (.d (.bl true), p.2) else fb p.2
def fNotV (fa : EF) : EF := fun env => (fa env).bind fun p => (asB p.2 p.1).map fun b => (.d (.bl (!b)), p.2)
/-- data of each -/
def frzs (env : DEnv) : List RV → Option (List Dv × DEnv)
  | [] => some ([], env)
  | r :: rs => (frz env r).bind fun p => (frzs p.2 rs).map fun q => (p.1 :: q.1, q.2)

section
variable {ta tb : TE} {fa fb : EF} {t u : TT} {f g : TF}
theorem asB_ok {C : DC} {env : DEnv} {σ : L2.St} {H : Hp} {rv : RV} {v : V} (R : Rel C env σ H) (r : RVr C env σ H rv v) {b : Bool} (h : asB env rv = some b) : v = .bl b := by
  unfold asB at h
  split at h
  · rename_i c e
    cases h
    have q := val_ok R r e
    unfold Dat at q
    exact q
  · cases h
theorem re_var {i : Nat} : RE (tVar i) (fVar i) := fun C env σ H Q rv env' h R k => by
  unfold fVar at h
  have hv : ∃ v, σ[i]? = some (some v) := by
    split at h
    · cases h
    · cases h
    · rename_i s n1 n2
      cases e : env[i]? with
      | none => exact absurd e n2
      | some s =>
        cases s with
        | non => exact absurd e n1
        | dat d =>
          obtain ⟨v, h1, _⟩ := R.dat i d e
          exact ⟨v, h1⟩
        | own b xs =>
          obtain ⟨a, _, h1, _⟩ := R.own i (.lst b) xs e
          exact ⟨_, h1⟩
        | ownD ks xs =>
          obtain ⟨a, _, h1, _⟩ := R.own i (.dct ks) xs e
          exact ⟨_, h1⟩
        | prv d =>
          obtain ⟨v, h1, _⟩ := R.prv i d e
          exact ⟨v, h1⟩
  have hr : (rv, env') = (.v i, env) := by
    split at h
    · cases h
    · cases h
    · exact (Option.some.inj h).symm
  cases hr
  obtain ⟨v, hv⟩ := hv
  exact ⟨v, hv, k v H R (Sh.refl _) (Grow.refl _ _ _) hv⟩
theorem re_c {v : V} {d : Dv} (hd : ∀ M H, Dat M H d v) : RE (tC v) (fC d) := fun C env σ H Q rv env' h R k => by
  cases h
  exact k v H R (Sh.refl _) (Grow.refl _ _ _) (hd _ _)
theorem re_int {i : Int} : RE (tC (.int i)) (fC (.int i)) := re_c fun _ _ => by unfold Dat; rfl
theorem re_bl {b : Bool} : RE (tC (.bl b)) (fC (.bl b)) := re_c fun _ _ => by unfold Dat; rfl
theorem re_str {s : Str} : RE (tC (.str s)) (fC (.str s)) := re_c fun _ _ => by unfold Dat; rfl
theorem re_non : RE (tC .non) (fC .non) := re_c fun _ _ => by unfold Dat; rfl
theorem re_ty {n : String} : RE (tC (.ty n)) (fC (.ty n)) := re_c fun _ _ => by unfold Dat; rfl
theorem re_cls {a : Addr} : RE (tC (.ref a)) (fC (.cls a)) := re_c fun _ _ => by unfold Dat; rfl
theorem re_op {r : R2} {g : DEnv → RV → RV → Option RV} (hr : RB r g) (ha : RE ta fa) (hb : RE tb fb) : RE (tOp r ta tb) (fOp g fa fb) := fun C env σ H Q rv env' h R k => by
  unfold fOp at h
  obtain ⟨⟨x, e1⟩, h1, h⟩ := Option.bind_eq_some_iff.mp h
  obtain ⟨⟨y, e2⟩, h2, h⟩ := Option.bind_eq_some_iff.mp h
  obtain ⟨z, h3, h⟩ := Option.map_eq_some_iff.mp h
  cases h
  refine ha C env σ H _ x e1 h1 R fun vx H1 R1 s1 g1 r1 => ?_
  refine hb C e1 σ H1 _ y e2 h2 R1 fun vy H2 R2 s2 g2 r2 => ?_
  refine hr C e2 σ H2 _ x y vx vy _ h3 R2 (r1.step s2 g2) r2 fun v H3 R3 g3 r3 => ?_
  exact k v H3 R3 (s1.trans s2) ((g1.trans s1 g2).trans (s1.trans s2) g3) r3
theorem re_un {r : V → Hp → VK → Prop} {g : DEnv → RV → Option RV} (hr : RU r g) (ha : RE ta fa) : RE (tUn r ta) (fUn g fa) := fun C env σ H Q rv env' h R k => by
  unfold fUn at h
  obtain ⟨⟨x, e1⟩, h1, h⟩ := Option.bind_eq_some_iff.mp h
  obtain ⟨z, h3, h⟩ := Option.map_eq_some_iff.mp h
  cases h
  refine ha C env σ H _ x e1 h1 R fun vx H1 R1 s1 g1 r1 => ?_
  exact hr C e1 σ H1 _ x vx _ h3 R1 r1 fun v H3 R3 g3 r3 => k v H3 R3 s1 (g1.trans s1 g3) r3
theorem ra_nil : RA tNil fNil := fun C env σ H Q rs env' h R k => by
  cases h
  exact k [] H R (Sh.refl _) (Grow.refl _ _ _) rfl
theorem ra_cons {tr : TA} {fr : AF} (ha : RE ta fa) (hr : RA tr fr) : RA (tCons ta tr) (fCons fa fr) := fun C env σ H Q rs env' h R k => by
  unfold fCons at h
  obtain ⟨⟨x, e1⟩, h1, h⟩ := Option.bind_eq_some_iff.mp h
  obtain ⟨⟨xs, e2⟩, h2, h⟩ := Option.map_eq_some_iff.mp h
  cases h
  refine ha C env σ H _ x e1 h1 R fun vx H1 R1 s1 g1 r1 => ?_
  refine hr C e1 σ H1 _ xs e2 h2 R1 fun vs H2 R2 s2 g2 r2 => ?_
  exact k _ H2 R2 (s1.trans s2) (g1.trans s1 g2) ⟨vx, vs, rfl, r1.step s2 g2, r2⟩
theorem re_cb {r : List V → Hp → VK → Prop} {g : DEnv → List RV → Option RV} {ta : TA} {fa : AF} (hr : RC r g) (ha : RA ta fa) : RE (tCB r ta) (fCB g fa) := fun C env σ H Q rv env' h R k => by
  unfold fCB at h
  obtain ⟨⟨x, e1⟩, h1, h⟩ := Option.bind_eq_some_iff.mp h
  obtain ⟨z, h3, h⟩ := Option.map_eq_some_iff.mp h
  cases h
  refine ha C env σ H _ x e1 h1 R fun vx H1 R1 s1 g1 r1 => ?_
  exact hr C e1 σ H1 _ x vx _ h3 R1 r1 fun v H3 R3 g3 r3 => k v H3 R3 s1 (g1.trans s1 g3) r3
theorem re_if (hc : RT t f) (ha : RE ta fa) (hb : RE tb fb) : RE (tIf t ta tb) (fIf f fa fb) := fun C env σ H Q rv env' h R k => by
  unfold fIf at h
  obtain ⟨⟨b, e1⟩, h1, h⟩ := Option.bind_eq_some_iff.mp h
  refine hc C env σ H _ b e1 h1 R fun H1 R1 s1 g1 => ?_
  cases b with
  | true => exact ha C e1 σ H1 _ rv env' h R1 fun v H2 R2 s2 g2 r2 => k v H2 R2 (s1.trans s2) (g1.trans s1 g2) r2
  | false => exact hb C e1 σ H1 _ rv env' h R1 fun v H2 R2 s2 g2 r2 => k v H2 R2 (s1.trans s2) (g1.trans s1 g2) r2
theorem rt_test (ha : RE ta fa) : RT (tTest ta) (fTest fa) := fun C env σ H Q b env' h R k => by
  unfold fTest at h
  obtain ⟨⟨x, e1⟩, h1, h⟩ := Option.bind_eq_some_iff.mp h
  obtain ⟨z, h3, h⟩ := Option.map_eq_some_iff.mp h
  cases h
  exact ha C env σ H _ x e1 h1 R fun vx H1 R1 s1 g1 r1 => ⟨_, asB_ok R1 r1 h3, k H1 R1 s1 g1⟩
theorem rt_B (ha : RE ta fa) : RT (tB ta) (fTest fa) := fun C env σ H Q b env' h R k => by
  unfold fTest at h
  obtain ⟨⟨x, e1⟩, h1, h⟩ := Option.bind_eq_some_iff.mp h
  obtain ⟨z, h3, h⟩ := Option.map_eq_some_iff.mp h
  cases h
  exact ha C env σ H _ x e1 h1 R fun vx H1 R1 s1 g1 r1 => ⟨_, asB_ok R1 r1 h3, k H1 R1 s1 g1⟩
theorem rt_and (ha : RT t f) (hb : RT u g) : RT (tAnd t u) (fAnd f g) := fun C env σ H Q b env' h R k => by
  unfold fAnd at h
  obtain ⟨⟨x, e1⟩, h1, h⟩ := Option.bind_eq_some_iff.mp h
  refine ha C env σ H _ x e1 h1 R fun H1 R1 s1 g1 => ?_
  cases x with
  | true => exact hb C e1 σ H1 _ b env' h R1 fun H2 R2 s2 g2 => k H2 R2 (s1.trans s2) (g1.trans s1 g2)
  | false =>
    cases h
    exact k H1 R1 s1 g1
theorem rt_or (ha : RT t f) (hb : RT u g) : RT (tOr t u) (fOr f g) := fun C env σ H Q b env' h R k => by
  unfold fOr at h
  obtain ⟨⟨x, e1⟩, h1, h⟩ := Option.bind_eq_some_iff.mp h
  refine ha C env σ H _ x e1 h1 R fun H1 R1 s1 g1 => ?_
  cases x with
  | false => exact hb C e1 σ H1 _ b env' h R1 fun H2 R2 s2 g2 => k H2 R2 (s1.trans s2) (g1.trans s1 g2)
  | true =>
    cases h
    exact k H1 R1 s1 g1
theorem rt_not (ha : RT t f) : RT (tNot t) (fNot f) := fun C env σ H Q b env' h R k => by
  unfold fNot at h
  obtain ⟨⟨x, e1⟩, h1, h⟩ := Option.map_eq_some_iff.mp h
  cases h
  exact ha C env σ H _ x e1 h1 R fun H1 R1 s1 g1 => k H1 R1 s1 g1
theorem re_andV (ha : RE ta fa) (hb : RE tb fb) : RE (tAndV ta tb) (fAndV fa fb) := fun C env σ H Q rv env' h R k => by
  unfold fAndV at h
  obtain ⟨⟨x, e1⟩, h1, h⟩ := Option.bind_eq_some_iff.mp h
  obtain ⟨b, h2, h⟩ := Option.bind_eq_some_iff.mp h
  refine ha C env σ H _ x e1 h1 R fun vx H1 R1 s1 g1 r1 => ⟨b, asB_ok R1 r1 h2, ?_⟩
  cases b with
  | true => exact hb C e1 σ H1 _ rv env' h R1 fun v H2 R2 s2 g2 r2 => k v H2 R2 (s1.trans s2) (g1.trans s1 g2) r2
  | false =>
    cases h
    exact k _ H1 R1 s1 g1 (show Dat (MM C e1 σ) H1 (.bl false) _ by unfold Dat; rfl)
theorem re_orV (ha : RE ta fa) (hb : RE tb fb) : RE (tOrV ta tb) (fOrV fa fb) := fun C env σ H Q rv env' h R k => by
  unfold fOrV at h
  obtain ⟨⟨x, e1⟩, h1, h⟩ := Option.bind_eq_some_iff.mp h
  obtain ⟨b, h2, h⟩ := Option.bind_eq_some_iff.mp h
  refine ha C env σ H _ x e1 h1 R fun vx H1 R1 s1 g1 r1 => ⟨b, asB_ok R1 r1 h2, ?_⟩
  cases b with
  | false => exact hb C e1 σ H1 _ rv env' h R1 fun v H2 R2 s2 g2 r2 => k v H2 R2 (s1.trans s2) (g1.trans s1 g2) r2
  | true =>
    cases h
    exact k _ H1 R1 s1 g1 (show Dat (MM C e1 σ) H1 (.bl true) _ by unfold Dat; rfl)
theorem re_notV (ha : RE ta fa) : RE (tNotV ta) (fNotV fa) := fun C env σ H Q rv env' h R k => by
  unfold fNotV at h
  obtain ⟨⟨x, e1⟩, h1, h⟩ := Option.bind_eq_some_iff.mp h
  obtain ⟨b, h2, h⟩ := Option.map_eq_some_iff.mp h
  cases h
  exact ha C env σ H _ x e1 h1 R fun vx H1 R1 s1 g1 r1 => ⟨b, asB_ok R1 r1 h2, k _ H1 R1 s1 g1 (show Dat (MM C e1 σ) H1 (.bl (!b)) _ by unfold Dat; rfl)⟩
theorem frzs_ok {C : DC} {σ : L2.St} {H : Hp} : ∀ {rs : List RV} {env env' : DEnv} {vs : List V} {ds : List Dv}, Rel C env σ H → RVs C env σ H rs vs → frzs env rs = some (ds, env') → Rel C env' σ H ∧ Sh env env' ∧ Dats (MM C env' σ) H ds vs
  | [], env, env', vs, ds, R, r, h => by
    simp only [frzs] at h
    cases h
    have r : vs = [] := r
    subst r
    exact ⟨R, Sh.refl _, .nil⟩
  | x :: rs, env, env', vs, ds, R, r, h => by
    simp only [frzs] at h
    obtain ⟨⟨d, e1⟩, h1, h⟩ := Option.bind_eq_some_iff.mp h
    obtain ⟨⟨ds', e2⟩, h2, h⟩ := Option.map_eq_some_iff.mp h
    cases h
    obtain ⟨v, ws, rfl, r1, r2⟩ := r
    obtain ⟨R1, s1, d1⟩ := frz_ok R r1 h1
    obtain ⟨R2, s2, d2⟩ := frzs_ok R1 (RVs.step s1 (Grow.refl _ _ _) r2) h2
    exact ⟨R2, s1.trans s2, .cons ((Grow.refl _ _ _).dat s2 d1) d2⟩
def szL : Nat := 16000000
theorem szL_le {n : Nat} (h : n ≤ szL) : n ≤ sizeLine := Nat.le_trans h (by rw [sizeLine_eq]; decide)
def fTup' (fa : AF) : EF := fun env => (fa env).bind fun p => (frzs p.2 p.1).bind fun q => if q.1.length ≤ szL then some (.d (.tup q.1), q.2) else none
def fLst' (fa : AF) : EF := fun env => (fa env).bind fun p => (frzs p.2 p.1).bind fun q => if q.1.length ≤ szL then some (.d (.lst q.1), q.2) else none
theorem re_tup {ta : TA} {fa : AF} (ha : RA ta fa) : RE (tTup ta) (fTup' fa) := fun C env σ H Q rv env' h R k => by
  unfold fTup' at h
  obtain ⟨⟨xs, e1⟩, h1, h⟩ := Option.bind_eq_some_iff.mp h
  obtain ⟨⟨ds, e2⟩, h2, h⟩ := Option.bind_eq_some_iff.mp h
  split at h
  · rename_i hz
    cases h
    refine ha C env σ H _ xs e1 h1 R fun vs H1 R1 s1 g1 r1 => ?_
    obtain ⟨R2, s2, d2⟩ := frzs_ok R1 r1 h2
    refine ⟨by rw [d2.length]; exact szL_le hz, fun p np => ?_⟩
    refine k _ _ (R2.alloc np) (s1.trans s2) ((g1.trans s1 (Grow.refl _ _ _)).trans (s1.trans s2) (Grow.new np)) ?_
    show Dat (MM C e2 σ) (upd H1 p (.tup vs)) (.tup ds) _
    unfold Dat
    exact ⟨p, vs, rfl, R2.fresh np, upd_same, (Grow.new np).dats (Sh.refl _) d2⟩
  · cases h
theorem re_lst {ta : TA} {fa : AF} (ha : RA ta fa) : RE (tLst ta) (fLst' fa) := fun C env σ H Q rv env' h R k => by
  unfold fLst' at h
  obtain ⟨⟨xs, e1⟩, h1, h⟩ := Option.bind_eq_some_iff.mp h
  obtain ⟨⟨ds, e2⟩, h2, h⟩ := Option.bind_eq_some_iff.mp h
  split at h
  · rename_i hz
    cases h
    refine ha C env σ H _ xs e1 h1 R fun vs H1 R1 s1 g1 r1 => ?_
    obtain ⟨R2, s2, d2⟩ := frzs_ok R1 r1 h2
    refine ⟨by rw [d2.length]; exact szL_le hz, fun p np => ?_⟩
    refine k _ _ (R2.alloc np) (s1.trans s2) ((g1.trans s1 (Grow.refl _ _ _)).trans (s1.trans s2) (Grow.new np)) ?_
    show Dat (MM C e2 σ) (upd H1 p (.lst vs)) (.lst ds) _
    unfold Dat
    exact ⟨p, vs, rfl, R2.fresh np, upd_same, (Grow.new np).dats (Sh.refl _) d2⟩
  · cases h
end
end DL

set_option Elab.async false
set_option linter.all false
set_option maxRecDepth 100000
set_option maxHeartbeats 4000000
namespace DL
open PySem L2 PyProof.Rows

section
variable {C : DC} {env env' : DEnv} {σ : L2.St} {H H' : Hp} {v : V} {rv : RV}
theorem val_int (R : Rel C env σ H) (r : RVr C env σ H rv v) {i : Int} (h : val env rv = some (.int i)) : v = .int i := by have q := val_ok R r h; unfold Dat at q; exact q
theorem val_bl (R : Rel C env σ H) (r : RVr C env σ H rv v) {i : Bool} (h : val env rv = some (.bl i)) : v = .bl i := by have q := val_ok R r h; unfold Dat at q; exact q
theorem val_str (R : Rel C env σ H) (r : RVr C env σ H rv v) {i : Str} (h : val env rv = some (.str i)) : v = .str i := by have q := val_ok R r h; unfold Dat at q; exact q
theorem val_non (R : Rel C env σ H) (r : RVr C env σ H rv v) (h : val env rv = some .non) : v = .non := by have q := val_ok R r h; unfold Dat at q; exact q
theorem val_ty (R : Rel C env σ H) (r : RVr C env σ H rv v) {n : String} (h : val env rv = some (.ty n)) : v = .ty n := by have q := val_ok R r h; unfold Dat at q; exact q
theorem val_cls (R : Rel C env σ H) (r : RVr C env σ H rv v) {a : Addr} (h : val env rv = some (.cls a)) : v = .ref a := by have q := val_ok R r h; unfold Dat at q; exact q
theorem val_tup (R : Rel C env σ H) (r : RVr C env σ H rv v) {xs : List Dv} (h : val env rv = some (.tup xs)) : ∃ a vs, v = .ref a ∧ ¬ MM C env σ a ∧ H a = some (.tup vs) ∧ Dats (MM C env σ) H xs vs := by have q := val_ok R r h; unfold Dat at q; exact q
theorem fin_ (R : Rel C env σ H) {Q : VK} {d : Dv} (k : ∀ v H', Rel C env σ H' → Grow env σ H H' → RVr C env σ H' (.d d) v → Q v H') (hd : Dat (MM C env σ) H d v) : Q v H := k v H R (Grow.refl _ _ _) hd
theorem fin_int (R : Rel C env σ H) {Q : VK} {i : Int} (k : ∀ v H', Rel C env σ H' → Grow env σ H H' → RVr C env σ H' (.d (.int i)) v → Q v H') : Q (.int i) H := fin_ R k (by unfold Dat; rfl)
theorem fin_bl (R : Rel C env σ H) {Q : VK} {i : Bool} (k : ∀ v H', Rel C env σ H' → Grow env σ H H' → RVr C env σ H' (.d (.bl i)) v → Q v H') : Q (.bl i) H := fin_ R k (by unfold Dat; rfl)
theorem fin_str (R : Rel C env σ H) {Q : VK} {i : Str} (k : ∀ v H', Rel C env σ H' → Grow env σ H H' → RVr C env σ H' (.d (.str i)) v → Q v H') : Q (.str i) H := fin_ R k (by unfold Dat; rfl)
theorem fin_lst (R : Rel C env σ H) {Q : VK} {xs : List Dv} {vs : List V} (k : ∀ v H', Rel C env σ H' → Grow env σ H H' → RVr C env σ H' (.d (.lst xs)) v → Q v H') (hs : Dats (MM C env σ) H xs vs) : ∀ p, H p = none → Q (.ref p) (upd H p (.lst vs)) := fun p np =>
  k _ _ (R.alloc np) (Grow.new np) (by
    show Dat (MM C env σ) _ (.lst xs) _
    unfold Dat
    exact ⟨p, vs, rfl, R.fresh np, upd_same, (Grow.new np).dats (Sh.refl _) hs⟩)
theorem fin_tup (R : Rel C env σ H) {Q : VK} {xs : List Dv} {vs : List V} (k : ∀ v H', Rel C env σ H' → Grow env σ H H' → RVr C env σ H' (.d (.tup xs)) v → Q v H') (hs : Dats (MM C env σ) H xs vs) : ∀ p, H p = none → Q (.ref p) (upd H p (.tup vs)) := fun p np =>
  k _ _ (R.alloc np) (Grow.new np) (by
    show Dat (MM C env σ) _ (.tup xs) _
    unfold Dat
    exact ⟨p, vs, rfl, R.fresh np, upd_same, (Grow.new np).dats (Sh.refl _) hs⟩)
end
def rOr (r r' : R2) : R2 := fun x y H Q => r x y H Q ∨ r' x y H Q

/-! ### + -/
def rIB : R2 := fun x y H Q => ∃ i k, x = .int i ∧ y = .bl k ∧ Q (.int (i + b2i k)) H
def rSt : R2 := fun x y H Q => ∃ i j, x = .str i ∧ y = .str j ∧ i.length + j.length ≤ sizeLine ∧ Q (.str (i ++ j)) H
def rAddU (K : PySem.W.Frag) : R2 := rOr (rI0 fun i j => .int (i + j)) (rOr rIB (rOr rSt (rOr rCat (rCatA K))))
theorem opAdd {X : Cx} : OpR X (binaryOp .Add) (rAddU X.K) := op_add.or (op_add_ib.or (op_add_str.or (op_cat.or op_catA)))
def gAdd (env : DEnv) (x y : RV) : Option RV := match val env x, val env y with
  | some (.int i), some (.int j) => some (.d (.int (i + j)))
  | some (.int i), some (.bl k) => some (.d (.int (i + b2i k)))
  | some (.str a), some (.str b) => if a.length + b.length ≤ szL then some (.d (.str (a ++ b))) else none
  | some (.tup xs), some (.tup ys) => if xs.length + ys.length ≤ szL then some (.d (.tup (xs ++ ys))) else none
  | _, _ => match seqL env x, seqL env y with
    | some xs, some ys => if xs.length + ys.length ≤ szL then some (.d (.lst (xs ++ ys))) else none
    | _, _ => none
theorem rb_add {K : PySem.W.Frag} : RB (rAddU K) gAdd := fun C env σ H Q x y vx vy z h R rx ry k => by
  unfold gAdd at h
  split at h
  · rename_i i j e1 e2
    cases h
    rw [val_int R rx e1, val_int R ry e2]
    exact .inl ⟨i, j, rfl, rfl, fin_int R k⟩
  · rename_i i j e1 e2
    cases h
    rw [val_int R rx e1, val_bl R ry e2]
    exact .inr (.inl ⟨i, j, rfl, rfl, fin_int R k⟩)
  · rename_i i j e1 e2
    split at h
    · rename_i hz
      cases h
      rw [val_str R rx e1, val_str R ry e2]
      exact .inr (.inr (.inl ⟨i, j, rfl, rfl, szL_le hz, fin_str R k⟩))
    · cases h
  · rename_i xs ys e1 e2
    split at h
    · rename_i hz
      cases h
      obtain ⟨a, vs, rfl, na, ha, hs⟩ := val_tup R rx e1
      obtain ⟨b, ws, rfl, nb, hb, ht⟩ := val_tup R ry e2
      refine .inr (.inr (.inr (.inr ⟨a, b, vs, ws, rfl, rfl, SqT.of ha, SqT.of hb, by rw [hs.length, ht.length]; exact szL_le hz, fun e => ?_, fun _ e => ?_, fun _ _ => fin_tup R k (hs.app ht)⟩)))
      · have e' : xs = [] := by
          have q := hs.length
          rw [e] at q
          exact List.eq_nil_of_length_eq_zero q.symm
        subst e'
        refine fin_ R k ?_
        show Dat _ _ (.tup ys) _
        unfold Dat
        exact ⟨b, ws, rfl, nb, hb, ht⟩
      · have e' : ys = [] := by
          have q := ht.length
          rw [e] at q
          exact List.eq_nil_of_length_eq_zero q.symm
        subst e'
        rw [List.append_nil] at k
        refine fin_ R k ?_
        show Dat _ _ (.tup xs) _
        unfold Dat
        exact ⟨a, vs, rfl, na, ha, hs⟩
    · cases h
  · split at h
    · rename_i xs ys e1 e2
      split at h
      · rename_i hz
        cases h
        obtain ⟨a, vs, rfl, ha, hs⟩ := seqL_ok R rx e1
        obtain ⟨b, ws, rfl, hb, ht⟩ := seqL_ok R ry e2
        exact .inr (.inr (.inr (.inl ⟨a, b, vs, ws, rfl, rfl, ha, hb, by rw [hs.length, ht.length]; exact szL_le hz, fin_lst R k (hs.app ht)⟩)))
      · cases h
    · cases h
/-! ### - * // % ** -/
def gInt (f : Int → Int → Option Int) (env : DEnv) (x y : RV) : Option RV := match val env x, val env y with
  | some (.int i), some (.int j) => (f i j).map fun z => .d (.int z)
  | _, _ => none
theorem rb_int {CC : Int → Int → Prop} {g : Int → Int → Int} {f : Int → Int → Option Int} (hf : ∀ i j z, f i j = some z → CC i j ∧ z = g i j) : RB (rI CC fun i j => .int (g i j)) (gInt f) := fun C env σ H Q x y vx vy z h R rx ry k => by
  unfold gInt at h
  split at h
  · rename_i i j e1 e2
    obtain ⟨w, h1, h⟩ := Option.map_eq_some_iff.mp h
    cases h
    obtain ⟨hc, rfl⟩ := hf i j w h1
    rw [val_int R rx e1, val_int R ry e2]
    exact ⟨i, j, rfl, rfl, hc, fin_int R k⟩
  · cases h
def gMinus := gInt fun i j => some (i - j)
theorem rb_sub : RB (rI0 fun i j => .int (i - j)) gMinus := fun C env σ H Q x y vx vy z h R rx ry k => by
  unfold gMinus gInt at h
  split at h
  · rename_i i j e1 e2
    cases h
    rw [val_int R rx e1, val_int R ry e2]
    exact ⟨i, j, rfl, rfl, fin_int R k⟩
  · cases h
theorem op_fdivX {X : Cx} : OpR X (binaryOp .FloorDiv) (rI (fun _ j => j ≠ 0 ∧ j.natAbs.log2 < 9000) fun i j => .int (i.fdiv j)) := opI fun i j _ _ _ _ _ hc q => floordiv_int hc.1 q (.inl (PyProof.noPylong_of_log2 hc.2))
def gFdiv := gInt fun i j => if j ≠ 0 ∧ j.natAbs.log2 < 9000 then some (i.fdiv j) else none
theorem rb_fdiv : RB (rI (fun _ j => j ≠ 0 ∧ j.natAbs.log2 < 9000) fun i j => .int (i.fdiv j)) gFdiv := rb_int fun i j z h => by
  split at h
  · rename_i hc
    exact ⟨hc, (Option.some.inj h).symm⟩
  · cases h
def gMod := gInt fun i j => if j ≠ 0 then some (i.fmod j) else none
theorem rb_mod : RB (rI (fun _ j => j ≠ 0) fun i j => .int (i.fmod j)) gMod := rb_int fun i j z h => by
  split at h
  · rename_i hc
    exact ⟨hc, (Option.some.inj h).symm⟩
  · cases h
def CPw (i j : Int) : Prop := 0 ≤ j ∧ (Builtin.Int.intBits i : Int) * j ≤ 2 ^ 27
instance (i j : Int) : Decidable (CPw i j) := by unfold CPw; infer_instance
theorem op_powX {X : Cx} : OpR X (binaryOp .Pow) (rI CPw fun i j => .int (i ^ j.toNat)) := opI fun _ _ _ _ _ _ _ hc q => pow_int hc.1 hc.2 q
def gPow := gInt fun i j => if CPw i j then some (i ^ j.toNat) else none
theorem rb_pow : RB (rI CPw fun i j => .int (i ^ j.toNat)) gPow := rb_int fun i j z h => by
  split at h
  · rename_i hc
    exact ⟨hc, (Option.some.inj h).symm⟩
  · cases h
/-- text times a number -/
def rMulS : R2 := fun x y H Q => ∃ z k, x = .str z ∧ y = .int k ∧ MulOk z k ∧ Q (.str (Txt.mul z k)) H
theorem op_mulS {X : Cx} : OpR X (binaryOp .Mult) rMulS := by
  intro pins s σ H x y v u Q I rx ry h
  obtain ⟨z, k, rfl, rfl, hm, q⟩ := h
  obtain ⟨t, rfl⟩ := rx
  obtain ⟨t2, rfl⟩ := ry
  exact PySem.SB.mul hm fun t' k' => ⟨.str (Txt.mul z k), H, I.tok k', ⟨_, rfl⟩, q⟩
/-- a tuple taken once, or not at all -/
def rRepT1 (K : PySem.W.Frag) : R2 := fun x y H Q => ∃ l xs, x = .ref l ∧ y = .int 1 ∧ SqT K H l xs ∧ Q (.ref l) H
def rRepT0 (K : PySem.W.Frag) : R2 := fun x y H Q => ∃ l k xs, x = .ref l ∧ y = .int k ∧ -1000 ≤ k ∧ k ≤ 0 ∧ SqT K H l xs ∧ xs ≠ [] ∧ ∀ p, H p = none → Q (.ref p) (upd H p (.tup []))
theorem tuple_mul1 (l : Addr) (items : Array Value) (n : Nat) (dd : Option Addr) (sl : Array (Option Value)) (u : Tok) :
    Meets (Builtin.«tuple.__mul__» ⟨[.ref l, .int 1 u], []⟩) (fun _ R s => s.heap.get? l = some { cls := .type "tuple", dict := dd, data := .seq items n, slots := sl } ∧ R (.ok (.ret (Value.ref l))) s) :=
  .of_wp fun prog w A R s h => by
    obtain ⟨hp, g, d, tk, os⟩ := s
    obtain ⟨hl, h⟩ := h
    have f1 := AutoSeq1.idx_int
    have c1 : (items.isEmpty || (1 : Int) == 1) = true := by simp
    wp_walk using wpAny_loadPart' hl
    exact ⟨_, rfl, h⟩
theorem tuple_mul0 (l : Addr) (items : Array Value) (n : Nat) (dd : Option Addr) (sl : Array (Option Value)) (x : Int) (u : Tok) (hi : items.isEmpty = false) (h1 : -1000 ≤ x) (h0 : x ≤ 0) :
    Meets (Builtin.«tuple.__mul__» ⟨[.ref l, .int x u], []⟩) (fun _ R s => s.heap.get? l = some { cls := .type "tuple", dict := dd, data := .seq items n, slots := sl } ∧
      R (.ok (.ret (Value.ref s.heap.objs.size))) { s with heap := s.heap.push { cls := Value.type "tuple", data := Data.seq #[] }, toks := s.toks }) :=
  .of_wp fun prog w A R s h => by
    obtain ⟨hp, g, d, tk, os⟩ := s
    obtain ⟨hl, h⟩ := h
    have f1 := AutoSeq1.idx_int
    have c0 : (decide (x < -(2 ^ 63)) || decide (x ≥ 2 ^ 63)) = false := by
      rw [decide_eq_false (by omega), decide_eq_false (by omega)] <;> rfl
    have c1 : (items.isEmpty || x == 1) = false := by
      rw [hi, Bool.false_or]
      exact beq_eq_false_iff_ne.mpr (by omega)
    have c2 : (decide (x ≤ 0) || items.isEmpty) = true := by rw [decide_eq_true h0]; rfl
    wp_walk using wpAny_loadPart' hl
    repeat (first
      | (refine wpAny_ite_false (decide_eq_false (by rw [c0]; exact Bool.false_ne_true)) ?_; wp_walk using wpAny_loadPart' hl)
      | (refine wpAny_ite_false (decide_eq_false (by rw [c1]; exact Bool.false_ne_true)) ?_; wp_walk using wpAny_loadPart' hl)
      | (refine wpAny_ite_true (decide_eq_true c2) ?_; wp_walk using wpAny_loadPart' hl))
    exact ⟨_, rfl, h⟩
theorem op_repT1 {X : Cx} : OpR X (binaryOp .Mult) (rRepT1 X.K) := by
  intro pins s σ H x y v u Q I rx ry h
  obtain ⟨l, xs, rfl, rfl, hT, q⟩ := h
  cases rx
  obtain ⟨t, rfl⟩ := ry
  obtain ⟨its, r, ⟨⟨cls, dd, data, sl⟩, ho, hc, n, hd⟩, hs⟩ := I.tuple hT
  simp only at hc hd
  subst hc hd
  refine wpAny_binaryOp_repeat_ref (T := "tuple") (U := "int") (by decide) ⟨_, ho, rfl⟩ (fun s' => typeIs_int s' 1 t) noFill_tuple_mul F.fills_int_mul F.slot_int_rmul repeat_tuple F.slot_int_index.lookup
    (call_meets F.slot_int_rmul (typeIs_int s 1 t) F.entry_int_rmul (F.args_int_rmul_2 _ _) (int_rmul_tuple 1 t l its.toArray n dd sl)
      ⟨ho, rfl, ⟨_, ho, rfl⟩, call_meets F.slot_tuple_mul ⟨_, ho, rfl⟩ F.entry_tuple_mul (F.args_tuple_mul_2 _ _) (tuple_mul1 l its.toArray n dd sl t) ⟨ho, ?_⟩⟩)
  exact ⟨.ref l, H, I, rfl, q⟩
theorem op_repT0 {X : Cx} : OpR X (binaryOp .Mult) (rRepT0 X.K) := by
  intro pins s σ H x y v u Q I rx ry h
  obtain ⟨l, k, xs, rfl, rfl, k1, k0, hT, hne, q⟩ := h
  cases rx
  obtain ⟨t, rfl⟩ := ry
  obtain ⟨its, r, ⟨⟨cls, dd, data, sl⟩, ho, hc, n, hd⟩, hs⟩ := I.tuple hT
  simp only at hc hd
  subst hc hd
  have hi : its.toArray.isEmpty = false := by
    cases its with
    | nil =>
      cases r
      exact absurd rfl hne
    | cons a b => rfl
  refine wpAny_binaryOp_repeat_ref (T := "tuple") (U := "int") (by decide) ⟨_, ho, rfl⟩ (fun s' => typeIs_int s' k t) noFill_tuple_mul F.fills_int_mul F.slot_int_rmul repeat_tuple F.slot_int_index.lookup
    (call_meets F.slot_int_rmul (typeIs_int s k t) F.entry_int_rmul (F.args_int_rmul_2 _ _) (int_rmul_tuple k t l its.toArray n dd sl)
      ⟨ho, rfl, ⟨_, ho, rfl⟩, call_meets F.slot_tuple_mul ⟨_, ho, rfl⟩ F.entry_tuple_mul (F.args_tuple_mul_2 _ _) (tuple_mul0 l its.toArray n dd sl k t hi k1 k0) ⟨ho, ?_⟩⟩)
  refine ⟨.ref s.heap.objs.size, _, I.laid (t' := s.toks) (o := .tup []) (fun b ob q => Heap.get?_push_of_some _ q) (Nat.le_refl _) ?_, rfl, q _ (I.hok.fresh (Nat.le_refl _))⟩
  exact ⟨by rw [sizeLine_eq]; decide, [], .nil, IsTup.new _ _⟩
def rMulU (K : PySem.W.Frag) : R2 := rOr (rI CMulW fun i j => .int (i * j)) (rOr rMulS (rOr rRep (rOr (rRepT1 K) (rOr (rRepT0 K) (rRepT K)))))
theorem opMul {X : Cx} : OpR X (binaryOp .Mult) (rMulU X.K) := op_mulW.or (op_mulS.or (op_rep.or (op_repT1.or (op_repT0.or op_repT))))
instance (i j : Int) : Decidable (CMulW i j) := by unfold CMulW; infer_instance
def mulC1 (a : Nat) (j : Int) : Prop := j ≤ 16000000 ∧ a ≤ 16000000 ∧ -1000 ≤ j ∧ a * j.toNat ≤ 16000000
def mulC2 (xs : List Dv) (j : Int) : Prop := -1000 ≤ j ∧ j ≤ 1000 ∧ xs.length ≤ 1000 ∧ xs ≠ []
def mulC3 (n : Nat) (j : Int) : Prop := -1000 ≤ j ∧ j ≤ 16000000 ∧ n * j.toNat ≤ szL
noncomputable instance (a : Nat) (j : Int) : Decidable (mulC1 a j) := Classical.propDecidable _
noncomputable instance (xs : List Dv) (j : Int) : Decidable (mulC2 xs j) := Classical.propDecidable _
noncomputable instance (n : Nat) (j : Int) : Decidable (mulC3 n j) := Classical.propDecidable _
noncomputable def gMul (env : DEnv) (x y : RV) : Option RV := match val env y with
  | some (.int j) => match val env x with
    | some (.int i) => if CMulW i j then some (.d (.int (i * j))) else none
    | some (.str a) => if mulC1 a.length j then some (.d (.str (Txt.mul a j))) else none
    | some (.tup xs) => if mulC2 xs j then some (.d (.tup (List.replicate j.toNat xs).flatten)) else none
    | _ => (seqL env x).bind fun xs => if mulC3 xs.length j then some (.d (.lst (List.replicate j.toNat xs).flatten)) else none
  | _ => none
theorem mulOk_len {x : Str} {n : Int} (h1 : n ≤ 16000000) (h2 : x.length ≤ 16000000) (h3 : -1000 ≤ n) (h4 : x.length * n.toNat ≤ 16000000) : MulOk x n := by
  refine ⟨?_, fun a b => ?_, fun a b => ?_⟩
  · rw [decide_eq_false (by omega), decide_eq_false (by omega)]
    rfl
  · have e : ((x.length : Nat) : Int) * n ≤ 16000000 := by
      have q : (((x.length * n.toNat : Nat)) : Int) ≤ 16000000 := by omega
      rw [Int.natCast_mul, Int.toNat_of_nonneg (by omega)] at q
      exact q
    have hn : 0 < n := by omega
    intro z
    have z2 : (2 ^ 63 - 1) / n < (x.length : Int) := z
    have z3 : (2 ^ 63 - 1 : Int) < (x.length : Int) * n := (Int.ediv_lt_iff_lt_mul hn).mp z2
    omega
  · unfold Builtin.Str.tooLong
    rw [sizeLine_eq]
    exact decide_eq_false (by omega)
theorem rb_mul {K : PySem.W.Frag} : RB (rMulU K) gMul := fun C env σ H Q x y vx vy z h R rx ry k => by
  unfold gMul at h
  split at h
  · rename_i j e2
    split at h
    · rename_i i e1
      split at h
      · rename_i hc
        cases h
        rw [val_int R rx e1, val_int R ry e2]
        exact .inl ⟨i, j, rfl, rfl, hc, fin_int R k⟩
      · cases h
    · rename_i i e1
      split at h
      · rename_i hc
        cases h
        rw [val_str R rx e1, val_int R ry e2]
        exact .inr (.inl ⟨i, j, rfl, rfl, mulOk_len hc.1 hc.2.1 hc.2.2.1 hc.2.2.2, fin_str R k⟩)
      · cases h
    · rename_i xs e1
      split at h
      · rename_i hc
        cases h
        obtain ⟨a, vs, rfl, na, ha, hs⟩ := val_tup R rx e1
        rw [val_int R ry e2]
        have hne : vs ≠ [] := fun e => hc.2.2.2 (by
          have q := hs.length
          rw [e] at q
          exact List.eq_nil_of_length_eq_zero q.symm)
        by_cases j0 : j ≤ 0
        · have e : (List.replicate j.toNat xs).flatten = [] := by rw [show j.toNat = 0 by omega]; rfl
          rw [e] at k
          exact .inr (.inr (.inr (.inr (.inl ⟨a, j, vs, rfl, rfl, hc.1, j0, SqT.of ha, hne, fin_tup R k .nil⟩))))
        · by_cases j1 : j = 1
          · subst j1
            refine .inr (.inr (.inr (.inl ⟨a, vs, rfl, rfl, SqT.of ha, fin_ R k ?_⟩)))
            have e : (List.replicate (1 : Int).toNat xs).flatten = xs := by simp
            rw [e]
            unfold Dat
            exact ⟨a, vs, rfl, na, ha, hs⟩
          · exact .inr (.inr (.inr (.inr (.inr ⟨a, j, vs, rfl, rfl, SqT.of ha, hne, by have := hc.1; omega, hc.2.1, by rw [hs.length]; exact hc.2.2.1, fin_tup R k (hs.rep _)⟩))))
      · cases h
    · obtain ⟨xs, e1, h⟩ := Option.bind_eq_some_iff.mp h
      split at h
      · rename_i hc
        cases h
        obtain ⟨a, vs, rfl, ha, hs⟩ := seqL_ok R rx e1
        rw [val_int R ry e2]
        have hc1 : -1000 ≤ j := hc.1
        have hc2 : j ≤ 16000000 := hc.2.1
        exact .inr (.inr (.inl ⟨a, j, vs, rfl, rfl, ha, by omega, by omega, by rw [hs.length]; exact szL_le hc.2.2, fin_lst R k (hs.rep _)⟩))
      · cases h
  · cases h
end DL

set_option Elab.async false
set_option linter.all false
set_option maxRecDepth 100000
set_option maxHeartbeats 4000000
namespace DL
open PySem L2 PyProof.Rows

/-! ### == -/
mutual
def py : Dv → PyData
  | .non => .none
  | .bl b => .bool b
  | .int i => .int i
  | .str s => .str s
  | .lst xs => .list (pys xs)
  | .tup xs => .tuple (pys xs)
  | _ => .dict []
def pys : List Dv → List PyData
  | [] => []
  | d :: ds => py d :: pys ds
end
section
variable {K : PySem.W.Frag} {M : Addr → Prop} {H : Hp}
mutual
theorem dp_of : ∀ (d : Dv) (v : V), (py d).canLay0 = true → Dat M H d v → Dp K H v (py d)
  | .non, v, _, h => by
    unfold Dat at h
    subst h
    exact .non
  | .bl b, v, _, h => by
    unfold Dat at h
    subst h
    exact .bl b
  | .int b, v, _, h => by
    unfold Dat at h
    subst h
    exact .int b
  | .str b, v, _, h => by
    unfold Dat at h
    subst h
    exact .str b
  | .lst xs, v, c, h => by
    unfold Dat at h
    obtain ⟨a, vs, rfl, _, ha, hs⟩ := h
    exact .lst (SqL.of ha) (dps_of xs vs (by unfold py PyData.canLay0 at c; exact c) hs)
  | .tup xs, v, c, h => by
    unfold Dat at h
    obtain ⟨a, vs, rfl, _, ha, hs⟩ := h
    exact .tup (SqT.of ha) (dps_of xs vs (by unfold py PyData.canLay0 at c; exact c) hs)
  | .ins _ _ _, v, c, h => by
    unfold py PyData.canLay0 at c
    cases c
  | .ty _, v, c, h => by
    unfold py PyData.canLay0 at c
    cases c
  | .cls _, v, c, h => by
    unfold py PyData.canLay0 at c
    cases c
  | .anyS, v, c, h => by
    unfold py PyData.canLay0 at c
    cases c
  | .dct _ _, v, c, h => by
    unfold py PyData.canLay0 at c
    cases c
  | .exc _ _ _, v, c, h => by
    unfold py PyData.canLay0 at c
    cases c
  | .scr _ _, v, c, h => by
    unfold py PyData.canLay0 at c
    cases c
theorem dps_of : ∀ (ds : List Dv) (vs : List V), PyData.canLayAll0 (pys ds) = true → Dats M H ds vs → DpAll K H vs (pys ds)
  | [], vs, _, h => by
    unfold Dats at h
    subst h
    exact .nil
  | d :: ds, vs, c, h => by
    unfold Dats at h
    obtain ⟨v, r, rfl, h1, h2⟩ := h
    unfold pys PyData.canLayAll0 at c
    rw [Bool.and_eq_true] at c
    exact .cons (dp_of d v c.1 h1) (dps_of ds r c.2 h2)
end
end
def eqC (d e : Dv) : Bool := SeqAt.shaped (py d) && SeqAt.shaped (py e)
def rEqU (K : PySem.W.Frag) : R2 := rOr rEq (rEqD K)
def rNeU (K : PySem.W.Frag) : R2 := rOr rNe (rNeD K)
theorem opEqU {X : Cx} (hu : X.A.units + 64 < cLine) : OpR X (compareOp .Eq) (rEqU X.K) := op_eq.or (op_eqD hu)
theorem opNeU {X : Cx} (hu : X.A.units + 64 < cLine) : OpR X (compareOp .NotEq) (rNeU X.K) := op_ne.or (op_neD hu)
def gEq (env : DEnv) (x y : RV) : Option RV := match look env x, look env y with
  | some (.str i), some (.str j) => some (.d (.bl (i == j)))
  | some d, some e => if eqC d e = true then some (.d (.bl (PyData.eqv (py d) (py e)))) else none
  | _, _ => none
def gNe (env : DEnv) (x y : RV) : Option RV := match look env x, look env y with
  | some (.str i), some (.str j) => some (.d (.bl (!(i == j))))
  | some d, some e => if eqC d e = true then some (.d (.bl (!PyData.eqv (py d) (py e)))) else none
  | _, _ => none
theorem str_eq (i j : Str) : (i == j) = decide (V.str i = V.str j) := by
  rw [Bool.eq_iff_iff]
  simp
theorem rb_eq {K : PySem.W.Frag} : RB (rEqU K) gEq := fun C env σ H Q x y vx vy z h R rx ry k => by
  unfold gEq at h
  split at h
  · rename_i i j e1 e2
    cases h
    have q1 := look_ok R rx e1
    have q2 := look_ok R ry e2
    unfold Dat at q1 q2
    subst q1 q2
    refine .inl ⟨rfl, ?_⟩
    rw [← str_eq]
    exact fin_bl R k
  · rename_i d e _ e1 e2
    split at h
    · rename_i hc
      cases h
      unfold eqC at hc
      rw [Bool.and_eq_true] at hc
      exact .inr ⟨_, _, dp_of d vx (SeqAt.canLay_of_shaped hc.1) (look_ok R rx e1), dp_of e vy (SeqAt.canLay_of_shaped hc.2) (look_ok R ry e2), hc.1, hc.2, fin_bl R k⟩
    · cases h
  · cases h
theorem rb_ne {K : PySem.W.Frag} : RB (rNeU K) gNe := fun C env σ H Q x y vx vy z h R rx ry k => by
  unfold gNe at h
  split at h
  · rename_i i j e1 e2
    cases h
    have q1 := look_ok R rx e1
    have q2 := look_ok R ry e2
    unfold Dat at q1 q2
    subst q1 q2
    refine .inl ⟨rfl, ?_⟩
    show Q (.bl (!decide (V.str i = V.str j))) H
    rw [← str_eq]
    exact fin_bl R k
  · rename_i d e _ e1 e2
    split at h
    · rename_i hc
      cases h
      unfold eqC at hc
      rw [Bool.and_eq_true] at hc
      exact .inr ⟨_, _, dp_of d vx (SeqAt.canLay_of_shaped hc.1) (look_ok R rx e1), dp_of e vy (SeqAt.canLay_of_shaped hc.2) (look_ok R ry e2), hc.1, hc.2, fin_bl R k⟩
    · cases h
  · cases h
/-! ### < <= > >= -/
def gCmp (f : Int → Int → Bool) (g : Str → Str → Bool) (env : DEnv) (x y : RV) : Option RV := match val env x, val env y with
  | some (.int i), some (.int j) => some (.d (.bl (f i j)))
  | some (.str i), some (.str j) => some (.d (.bl (g i j)))
  | _, _ => none
def rCmpU (f : Int → Int → Bool) (g : Str → Str → Bool) : R2 := rOr (rI0 fun i j => .bl (f i j)) (fun x y H Q => ∃ i j, x = .str i ∧ y = .str j ∧ Q (.bl (g i j)) H)
theorem rb_cmp {f : Int → Int → Bool} {g : Str → Str → Bool} : RB (rCmpU f g) (gCmp f g) := fun C env σ H Q x y vx vy z h R rx ry k => by
  unfold gCmp at h
  split at h
  · rename_i i j e1 e2
    cases h
    rw [val_int R rx e1, val_int R ry e2]
    exact .inl ⟨i, j, rfl, rfl, fin_bl R k⟩
  · rename_i i j e1 e2
    cases h
    rw [val_str R rx e1, val_str R ry e2]
    exact .inr ⟨i, j, rfl, rfl, fin_bl R k⟩
  · cases h
def ltS (i j : Str) : Bool := decide (i.cps.toList < j.cps.toList)
def leS (i j : Str) : Bool := !decide (j.cps.toList < i.cps.toList)
def gtS (i j : Str) : Bool := decide (j.cps.toList < i.cps.toList)
def geS (i j : Str) : Bool := !decide (i.cps.toList < j.cps.toList)
def ltI (i j : Int) : Bool := decide (i < j)
def leI (i j : Int) : Bool := decide (i ≤ j)
def gtI (i j : Int) : Bool := decide (j < i)
def geI (i j : Int) : Bool := decide (j ≤ i)
def gLt := gCmp ltI ltS
def gLe := gCmp leI leS
def gGt := gCmp gtI gtS
def gGe := gCmp geI geS
section
variable {X : Cx}
theorem opLt : OpR X (compareOp .Lt) (rCmpU ltI ltS) := op_lt.or op_lt_str
theorem opLe : OpR X (compareOp .LtE) (rCmpU leI leS) := op_le.or op_le_str
theorem opGt : OpR X (compareOp .Gt) (rCmpU gtI gtS) := op_gt.or op_gt_str
theorem opGe : OpR X (compareOp .GtE) (rCmpU geI geS) := op_ge.or op_ge_str
end
theorem rb_lt : RB (rCmpU ltI ltS) gLt := rb_cmp
theorem rb_le : RB (rCmpU leI leS) gLe := rb_cmp
theorem rb_gt : RB (rCmpU gtI gtS) gGt := rb_cmp
theorem rb_ge : RB (rCmpU geI geS) gGe := rb_cmp
/-! ### is, is not -/
def isNon : Dv → Bool
  | .non => true
  | _ => false
theorem isNon_ok {M : Addr → Prop} {H : Hp} {d : Dv} {v : V} (h : Dat M H d v) : decide (v = .non) = isNon d := by
  cases d <;> unfold Dat at h
  case non => subst h; rfl
  case bl b => subst h; rfl
  case int b => subst h; rfl
  case str b => subst h; rfl
  case ty b => subst h; rfl
  case cls b => subst h; rfl
  case anyS => obtain ⟨x, rfl⟩ := h; rfl
  case dct ks ds => obtain ⟨a, vs, rfl, _⟩ := h; rfl
  case exc C ns ds => obtain ⟨a, d, vs, rfl, _⟩ := h; rfl
  case scr K ns => obtain ⟨x, rfl, _⟩ := h; rfl
  case lst xs => obtain ⟨a, vs, rfl, _⟩ := h; rfl
  case tup xs => obtain ⟨a, vs, rfl, _⟩ := h; rfl
  case ins C ns ds => obtain ⟨a, dx, vs, rfl, _⟩ := h; rfl
def rIsU : R2 := rOr (fun x y H Q => y = .non ∧ Q (.bl (decide (x = .non))) H) rIsB
def rNotU : R2 := rOr (fun x y H Q => y = .non ∧ Q (.bl (!decide (x = .non))) H) rNotB
theorem opIs {X : Cx} : OpR X (compareOp .Is) rIsU := op_isN.or op_isBl
theorem opNot {X : Cx} : OpR X (compareOp .IsNot) rNotU := op_notN.or op_notBl
def gIs (n : Bool) (env : DEnv) (x y : RV) : Option RV := match val env y with
  | some .non => (look env x).map fun d => .d (.bl (n ^^ isNon d))
  | some (.bl b) => match val env x with
    | some (.bl a) => some (.d (.bl (n ^^ (a == b))))
    | _ => none
  | _ => none
theorem rb_is : RB rIsU (gIs false) := fun C env σ H Q x y vx vy z h R rx ry k => by
  unfold gIs at h
  split at h
  · rename_i e2
    obtain ⟨d, e1, h⟩ := Option.map_eq_some_iff.mp h
    cases h
    rw [val_non R ry e2]
    refine .inl ⟨rfl, ?_⟩
    rw [isNon_ok (look_ok R rx e1)]
    rw [Bool.false_xor] at k
    exact fin_bl R k
  · rename_i b e2
    split at h
    · rename_i a e1
      cases h
      rw [val_bl R rx e1, val_bl R ry e2]
      refine .inr ⟨a, b, rfl, rfl, ?_⟩
      rw [Bool.false_xor, Bool.beq_eq_decide_eq] at k
      exact fin_bl R k
    · cases h
  · cases h
theorem rb_isnot : RB rNotU (gIs true) := fun C env σ H Q x y vx vy z h R rx ry k => by
  unfold gIs at h
  split at h
  · rename_i e2
    obtain ⟨d, e1, h⟩ := Option.map_eq_some_iff.mp h
    cases h
    rw [val_non R ry e2]
    refine .inl ⟨rfl, ?_⟩
    rw [isNon_ok (look_ok R rx e1)]
    rw [Bool.true_xor] at k
    exact fin_bl R k
  · rename_i b e2
    split at h
    · rename_i a e1
      cases h
      rw [val_bl R rx e1, val_bl R ry e2]
      refine .inr ⟨a, b, rfl, rfl, ?_⟩
      rw [Bool.true_xor, Bool.beq_eq_decide_eq] at k
      exact fin_bl R k
    · cases h
  · cases h
/-! ### x[i] -/
def gIx (env : DEnv) (x y : RV) : Option RV := match val env y with
  | some (.int i) => match val env x with
    | some (.tup xs) => (atI xs i).map RV.d
    | some (.str s) => if s.length ≤ szL then (atI s.cps.toList i).map fun c => .d (.str ⟨#[c]⟩) else none
    | _ => (seqL env x).bind fun xs => (atI xs i).map RV.d
  | _ => none
theorem Dats.at {M : Addr → Prop} {H : Hp} {xs : List Dv} {vs : List V} {i : Int} {d : Dv} (h : Dats M H xs vs) (e : atI xs i = some d) : ∃ v, atI vs i = some v ∧ Dat M H d v := by
  unfold atI at e ⊢
  rw [h.length]
  obtain ⟨j, h1, h2⟩ := Option.bind_eq_some_iff.mp e
  obtain ⟨v, h3, h4⟩ := h.get h2
  exact ⟨v, by rw [h1]; exact h3, h4⟩
theorem rb_ix {K : PySem.W.Frag} : RB (rIx K) gIx := fun C env σ H Q x y vx vy z h R rx ry k => by
  unfold gIx at h
  split at h
  · rename_i i e2
    rw [val_int R ry e2]
    split at h
    · rename_i xs e1
      obtain ⟨d, h1, h⟩ := Option.map_eq_some_iff.mp h
      cases h
      obtain ⟨a, vs, rfl, na, ha, hs⟩ := val_tup R rx e1
      obtain ⟨w, h3, h4⟩ := hs.at h1
      exact .inr (.inl ⟨a, vs, i, w, rfl, rfl, SqT.of ha, h3, fin_ R k h4⟩)
    · rename_i s e1
      split at h
      · rename_i hz
        obtain ⟨d, h1, h⟩ := Option.map_eq_some_iff.mp h
        cases h
        rw [val_str R rx e1]
        exact .inr (.inr ⟨s, i, d, rfl, rfl, szL_le hz, h1, fin_str R k⟩)
      · cases h
    · obtain ⟨xs, e1, h⟩ := Option.bind_eq_some_iff.mp h
      obtain ⟨d, h1, h⟩ := Option.map_eq_some_iff.mp h
      cases h
      obtain ⟨a, vs, rfl, ha, hs⟩ := seqL_ok R rx e1
      obtain ⟨w, h3, h4⟩ := hs.at h1
      exact .inl ⟨a, vs, i, w, rfl, rfl, SqL.of ha, h3, fin_ R k h4⟩
  · cases h
/-! ### x[i:j] -/
def RO (t : TO) (f : DEnv → Option (Option Int × DEnv)) : Prop := ∀ (C : DC) (env : DEnv) (σ : L2.St) (H : Hp) (Q : Option Int → Hp → Prop) (o : Option Int) (env' : DEnv), f env = some (o, env') → Rel C env σ H →
  (∀ H', Rel C env' σ H' → Sh env env' → Grow env σ H H' → Q o H') → t σ H Q
def fNoPart : DEnv → Option (Option Int × DEnv) := fun env => some (none, env)
def asI (env : DEnv) (rv : RV) : Option Int := match val env rv with
  | some (.int i) => some i
  | _ => none
theorem asI_ok {C : DC} {env : DEnv} {σ : L2.St} {H : Hp} {rv : RV} {v : V} (R : Rel C env σ H) (r : RVr C env σ H rv v) {i : Int} (h : asI env rv = some i) : v = .int i := by
  unfold asI at h
  split at h
  · rename_i e
    cases h
    exact val_int R r e
  · cases h
def fPart (fa : EF) : DEnv → Option (Option Int × DEnv) := fun env => (fa env).bind fun p => (asI p.2 p.1).map fun i => (some i, p.2)
theorem ro_none : RO tNoPart fNoPart := fun C env σ H Q o env' h R k => by
  cases h
  exact k H R (Sh.refl _) (Grow.refl _ _ _)
theorem ro_some {ta : TE} {fa : EF} (ha : RE ta fa) : RO (tPart ta) (fPart fa) := fun C env σ H Q o env' h R k => by
  unfold fPart at h
  obtain ⟨⟨x, e1⟩, h1, h⟩ := Option.bind_eq_some_iff.mp h
  obtain ⟨i, h3, h⟩ := Option.map_eq_some_iff.mp h
  cases h
  exact ha C env σ H _ x e1 h1 R fun vx H1 R1 s1 g1 r1 => ⟨i, asI_ok R1 r1 h3, k H1 R1 s1 g1⟩
def cut {α : Type} (xs : List α) (lo hi : Option Int) : List α := (xs.drop (HT.sIx xs.length 0 lo)).take (HT.sIx xs.length xs.length hi - HT.sIx xs.length 0 lo)
theorem Dats.cut {M : Addr → Prop} {H : Hp} {xs : List Dv} {vs : List V} (h : Dats M H xs vs) (lo hi : Option Int) : Dats M H (cut xs lo hi) (cutV vs lo hi) := by
  unfold DL.cut cutV
  rw [h.length]
  exact (h.drop _).take _
def rSlU (K : PySem.W.Frag) : V → Option Int → Option Int → Hp → VK → Prop := fun x lo hi H Q => rSlL K x lo hi H Q ∨ (rSlS x lo hi H Q ∨ rSlA K x lo hi H Q)
theorem slU {X : Cx} : SlR X (rSlU X.K) := sl_list.or (sl_str.or sl_tupA)
def gSl (env : DEnv) (x : RV) (lo hi : Option Int) : Option RV := match val env x with
  | some (.tup xs) => some (.d (.tup (cut xs lo hi)))
  | some (.str s) => if s.length ≤ szL then some (.d (.str (cutS s lo hi))) else none
  | _ => (seqL env x).map fun xs => .d (.lst (cut xs lo hi))
def fSl (fa : EF) (fl fh : DEnv → Option (Option Int × DEnv)) : EF := fun env => (fa env).bind fun p => (fl p.2).bind fun q => (fh q.2).bind fun r => (gSl r.2 p.1 q.1 r.1).map fun z => (z, r.2)
theorem re_sl {K : PySem.W.Frag} {ta : TE} {fa : EF} {tl th : TO} {fl fh : DEnv → Option (Option Int × DEnv)} (ha : RE ta fa) (hl : RO tl fl) (hh : RO th fh) : RE (tSl (rSlU K) ta tl th) (fSl fa fl fh) := fun C env σ H Q rv env' h R k => by
  unfold fSl at h
  obtain ⟨⟨x, e1⟩, h1, h⟩ := Option.bind_eq_some_iff.mp h
  obtain ⟨⟨lo, e2⟩, h2, h⟩ := Option.bind_eq_some_iff.mp h
  obtain ⟨⟨hi, e3⟩, h3, h⟩ := Option.bind_eq_some_iff.mp h
  obtain ⟨z, h4, h⟩ := Option.map_eq_some_iff.mp h
  cases h
  refine ha C env σ H _ x e1 h1 R fun vx H1 R1 s1 g1 r1 => ?_
  refine hl C e1 σ H1 _ lo e2 h2 R1 fun H2 R2 s2 g2 => ?_
  refine hh C e2 σ H2 _ hi e3 h3 R2 fun H3 R3 s3 g3 => ?_
  have r3 : RVr C e3 σ H3 x vx := (r1.step s2 g2).step s3 g3
  have ss := (s1.trans s2).trans s3
  have gg := (g1.trans s1 g2).trans (s1.trans s2) g3
  have k' : ∀ v H', Rel C e3 σ H' → Grow e3 σ H3 H' → RVr C e3 σ H' rv v → Q v H' := fun v H' R' g' r' => k v H' R' ss (gg.trans ss g') r'
  clear k
  unfold gSl at h4
  simp only at h4
  split at h4
  · rename_i xs q
    cases h4
    obtain ⟨a, vs, rfl, na, hha, hs⟩ := val_tup R3 r3 q
    refine .inr (.inr ⟨a, vs, rfl, SqT.of hha, fun w => ?_, fun _ => fin_tup R3 k' (hs.cut lo hi)⟩)
    refine fin_ R3 k' ?_
    have e : DL.cut xs lo hi = xs := by
      unfold DL.cut
      rw [← hs.length, w.1, w.2, List.drop_zero, Nat.sub_zero, List.take_of_length_le (by rw [hs.length]; exact Nat.le_refl _)]
    rw [e]
    unfold Dat
    exact ⟨a, vs, rfl, na, hha, hs⟩
  · rename_i s q
    split at h4
    · rename_i hz
      cases h4
      rw [val_str R3 r3 q]
      exact .inr (.inl ⟨s, rfl, szL_le hz, fin_str R3 k'⟩)
    · cases h4
  · obtain ⟨xs, q, h4⟩ := Option.map_eq_some_iff.mp h4
    cases h4
    obtain ⟨a, vs, rfl, hha, hs⟩ := seqL_ok R3 r3 q
    exact .inl ⟨a, vs, rfl, SqL.of hha, fin_lst R3 k' (hs.cut lo hi)⟩
/-! ### -x -/
def gNeg (env : DEnv) (x : RV) : Option RV := (asI env x).map fun i => .d (.int (-i))
theorem ru_neg : RU (rU fun i => .int (-i)) gNeg := fun C env σ H Q x vx z h R rx k => by
  unfold gNeg at h
  obtain ⟨i, h1, h⟩ := Option.map_eq_some_iff.mp h
  cases h
  rw [asI_ok R rx h1]
  exact ⟨i, rfl, fin_int R k⟩
/-! ### chains -/
def fChain (g g' : DEnv → RV → RV → Option RV) (fa fb fc : EF) : EF := fun env => (fa env).bind fun p => (fb p.2).bind fun q => (g q.2 p.1 q.1).bind fun z => (asB q.2 z).bind fun b =>
  if b = true then (fc q.2).bind fun r => (g' r.2 q.1 r.1).map fun z => (z, r.2) else some (.d (.bl false), q.2)
end DL

set_option Elab.async false
set_option linter.all false
set_option maxRecDepth 100000
set_option maxHeartbeats 4000000
namespace DL
open PySem L2 PyProof.Rows

theorem re_chain {r r' : R2} {g g' : DEnv → RV → RV → Option RV} {ta tb tc : TE} {fa fb fc : EF} (hr : RB r g) (hr' : RB r' g') (ha : RE ta fa) (hb : RE tb fb) (hc : RE tc fc) : RE (tChain r r' ta tb tc) (fChain g g' fa fb fc) := fun C env σ H Q rv env' h R k => by
  unfold fChain at h
  obtain ⟨⟨x, e1⟩, h1, h⟩ := Option.bind_eq_some_iff.mp h
  obtain ⟨⟨y, e2⟩, h2, h⟩ := Option.bind_eq_some_iff.mp h
  obtain ⟨z, h3, h⟩ := Option.bind_eq_some_iff.mp h
  obtain ⟨b, h4, h⟩ := Option.bind_eq_some_iff.mp h
  refine ha C env σ H _ x e1 h1 R fun vx H1 R1 s1 g1 r1 => ?_
  refine hb C e1 σ H1 _ y e2 h2 R1 fun vy H2 R2 s2 g2 r2 => ?_
  refine hr C e2 σ H2 _ x y vx vy z h3 R2 (r1.step s2 g2) r2 fun v H3 R3 g3 r3 => ⟨b, asB_ok R3 r3 h4, ?_⟩
  have gg := (g1.trans s1 g2).trans (s1.trans s2) g3
  cases b with
  | false =>
    cases h
    exact k _ H3 R3 (s1.trans s2) gg (show Dat (MM C e2 σ) H3 (.bl false) _ by unfold Dat; rfl)
  | true =>
    obtain ⟨⟨u, e4⟩, h5, h⟩ := Option.bind_eq_some_iff.mp h
    obtain ⟨z', h6, h⟩ := Option.map_eq_some_iff.mp h
    cases h
    refine hc C e2 σ H3 _ u e4 h5 R3 fun vu H4 R4 s4 g4 r4 => ?_
    exact hr' C e4 σ H4 _ y u vy vu _ h6 R4 ((r2.step (Sh.refl _) g3).step s4 g4) r4 fun v H5 R5 g5 r5 => k v H5 R5 ((s1.trans s2).trans s4) ((gg.trans (s1.trans s2) g4).trans ((s1.trans s2).trans s4) g5) r5

/-! ### calls of built-in functions on values -/
theorem rvs1 {C : DC} {env : DEnv} {σ : L2.St} {H : Hp} {x : RV} {vs : List V} (h : RVs C env σ H [x] vs) : ∃ v, vs = [v] ∧ RVr C env σ H x v := by
  obtain ⟨v, ws, rfl, h1, h2⟩ := h
  have h2 : ws = [] := h2
  exact ⟨v, by rw [h2], h1⟩
theorem rvs2 {C : DC} {env : DEnv} {σ : L2.St} {H : Hp} {x y : RV} {vs : List V} (h : RVs C env σ H [x, y] vs) : ∃ v w, vs = [v, w] ∧ RVr C env σ H x v ∧ RVr C env σ H y w := by
  obtain ⟨v, ws, rfl, h1, h2⟩ := h
  obtain ⟨w, rfl, h3⟩ := rvs1 h2
  exact ⟨v, w, rfl, h1, h3⟩
def g1 (f : DEnv → RV → Option RV) (env : DEnv) : List RV → Option RV
  | [x] => f env x
  | _ => none
def g2 (f : DEnv → RV → RV → Option RV) (env : DEnv) : List RV → Option RV
  | [x, y] => f env x y
  | _ => none
theorem rc_1 {r : List V → Hp → VK → Prop} {f : DEnv → RV → Option RV} (h : RU (fun v => r [v]) f) : RC r (g1 f) := fun C env σ H Q xs vs z e R rs k => by
  match xs, e with
  | [x], e =>
    obtain ⟨v, rfl, r1⟩ := rvs1 rs
    exact h C env σ H Q x v z e R r1 k
theorem rc_2 {r : List V → Hp → VK → Prop} {f : DEnv → RV → RV → Option RV} (h : RB (fun v w => r [v, w]) f) : RC r (g2 f) := fun C env σ H Q xs vs z e R rs k => by
  match xs, e with
  | [x, y], e =>
    obtain ⟨v, w, rfl, r1, r2⟩ := rvs2 rs
    exact h C env σ H Q x y v w z e R r1 r2 k
/-- len -/
def gLen (env : DEnv) (x : RV) : Option RV := match val env x with
  | some (.str s) => if s.length ≤ szL then some (.d (.int s.length)) else none
  | some (.tup xs) => some (.d (.int xs.length))
  | _ => (seqL env x).map fun xs => .d (.int xs.length)
def rLen (K : PySem.W.Frag) : List V → Hp → VK → Prop := fun xs H Q => ∃ x n, xs = [x] ∧ LenV K x H n ∧ Q (.int (n : Nat)) H
theorem rc_len {K : PySem.W.Frag} : RC (rLen K) (g1 gLen) := rc_1 fun C env σ H Q x v z h R r k => by
  unfold gLen at h
  split at h
  · rename_i s e
    split at h
    · rename_i hz
      cases h
      rw [val_str R r e]
      exact ⟨_, s.length, rfl, ⟨szL_le hz, rfl⟩, fin_int R k⟩
    · cases h
  · rename_i xs e
    cases h
    obtain ⟨a, vs, rfl, na, ha, hs⟩ := val_tup R r e
    exact ⟨_, xs.length, rfl, .inr ⟨vs, SqT.of ha, hs.length.symm⟩, fin_int R k⟩
  · obtain ⟨xs, e, h⟩ := Option.map_eq_some_iff.mp h
    cases h
    obtain ⟨a, vs, rfl, ha, hs⟩ := seqL_ok R r e
    exact ⟨_, xs.length, rfl, .inl ⟨vs, SqL.of ha, hs.length.symm⟩, fin_int R k⟩
/-- int(n), int(flag) -/
def gInt1 (env : DEnv) (x : RV) : Option RV := match val env x with
  | some (.int i) => some (.d (.int i))
  | some (.bl b) => some (.d (.int (if b then 1 else 0)))
  | _ => none
def rInt1 : List V → Hp → VK → Prop := fun xs H Q => (∃ i, xs = [.int i] ∧ Q (.int i) H) ∨ ∃ k : Bool, xs = [.bl k] ∧ Q (.int (if k then 1 else 0)) H
theorem rc_int : RC rInt1 (g1 gInt1) := rc_1 fun C env σ H Q x v z h R r k => by
  unfold gInt1 at h
  split at h
  · rename_i i e
    cases h
    rw [val_int R r e]
    exact .inl ⟨i, rfl, fin_int R k⟩
  · rename_i i e
    cases h
    rw [val_bl R r e]
    exact .inr ⟨i, rfl, fin_int R k⟩
  · cases h
def gI1 (f : Int → Int) (env : DEnv) (x : RV) : Option RV := (asI env x).map fun i => .d (.int (f i))
theorem rc_i1 {f : Int → Int} : RC (fun xs H Q => ∃ i, xs = [.int i] ∧ Q (.int (f i)) H) (g1 (gI1 f)) := rc_1 fun C env σ H Q x v z h R r k => by
  unfold gI1 at h
  obtain ⟨i, e, h⟩ := Option.map_eq_some_iff.mp h
  cases h
  rw [asI_ok R r e]
  exact ⟨i, rfl, fin_int R k⟩
def gI2 (f : Int → Int → Int) (env : DEnv) (x y : RV) : Option RV := match val env x, val env y with
  | some (.int i), some (.int j) => some (.d (.int (f i j)))
  | _, _ => none
theorem rc_i2 {f : Int → Int → Int} : RC (fun xs H Q => ∃ i j, xs = [.int i, .int j] ∧ Q (.int (f i j)) H) (g2 (gI2 f)) := rc_2 fun C env σ H Q x y v w z h R r r' k => by
  unfold gI2 at h
  split at h
  · rename_i i j e1 e2
    cases h
    rw [val_int R r e1, val_int R r' e2]
    exact ⟨i, j, rfl, fin_int R k⟩
  · cases h
def absI (i : Int) : Int := if i < 0 then -i else i
def maxI (i j : Int) : Int := if j > i then j else i
def minI (i j : Int) : Int := if j < i then j else i
/-- list(x), tuple(x) -/
def asSeq (env : DEnv) (x : RV) : Option (List Dv) := match val env x with
  | some (.tup xs) => some xs
  | _ => seqL env x
theorem asSeq_ok {K : PySem.W.Frag} {C : DC} {env : DEnv} {σ : L2.St} {H : Hp} {x : RV} {v : V} (R : Rel C env σ H) (r : RVr C env σ H x v) {xs : List Dv} (h : asSeq env x = some xs) : ∃ a vs, v = .ref a ∧ (SqL K H a vs ∨ SqT K H a vs) ∧ Dats (MM C env σ) H xs vs := by
  unfold asSeq at h
  split at h
  · rename_i ys e
    cases h
    obtain ⟨a, vs, rfl, na, ha, hs⟩ := val_tup R r e
    exact ⟨a, vs, rfl, .inr (SqT.of ha), hs⟩
  · obtain ⟨a, vs, rfl, ha, hs⟩ := seqL_ok R r h
    exact ⟨a, vs, rfl, .inl (SqL.of ha), hs⟩
def gListOf (env : DEnv) (x : RV) : Option RV := (asSeq env x).map fun xs => .d (.lst xs)
def gTupOf (env : DEnv) (x : RV) : Option RV := (asSeq env x).map fun xs => .d (.tup xs)
def rListOf (K : PySem.W.Frag) : List V → Hp → VK → Prop := fun xs H Q => ∃ p ys, xs = [.ref p] ∧ (SqL K H p ys ∨ SqT K H p ys) ∧ ∀ l, H l = none → Q (.ref l) (upd H l (.lst ys))
def rTupOf (K : PySem.W.Frag) : List V → Hp → VK → Prop := fun xs H Q => ∃ p ys, xs = [.ref p] ∧ ((SqL K H p ys ∧ ∀ l, H l = none → Q (.ref l) (upd H l (.tup ys))) ∨ (SqT K H p ys ∧ Q (.ref p) H))
theorem rc_listOf {K : PySem.W.Frag} : RC (rListOf K) (g1 gListOf) := rc_1 fun C env σ H Q x v z h R r k => by
  unfold gListOf at h
  obtain ⟨xs, e, h⟩ := Option.map_eq_some_iff.mp h
  cases h
  obtain ⟨a, vs, rfl, ha, hs⟩ := asSeq_ok (K := K) R r e
  exact ⟨a, vs, rfl, ha, fin_lst R k hs⟩
theorem rc_tupOf {K : PySem.W.Frag} : RC (rTupOf K) (g1 gTupOf) := rc_1 fun C env σ H Q x v z h R r k => by
  unfold gTupOf at h
  obtain ⟨xs, e, h⟩ := Option.map_eq_some_iff.mp h
  cases h
  unfold asSeq at e
  split at e
  · rename_i ys e'
    cases e
    obtain ⟨a, vs, rfl, na, ha, hs⟩ := val_tup R r e'
    refine ⟨a, vs, rfl, .inr ⟨SqT.of ha, fin_ R k ?_⟩⟩
    unfold Dat
    exact ⟨a, vs, rfl, na, ha, hs⟩
  · obtain ⟨a, vs, rfl, ha, hs⟩ := seqL_ok R r e
    exact ⟨a, vs, rfl, .inl ⟨SqL.of ha, fin_tup R k hs⟩⟩
/-- sum of a list of intL -/
def intL : List Dv → Option (List Int)
  | [] => some []
  | .int i :: r => (intL r).map (i :: ·)
  | _ :: _ => none
theorem intL_ok : ∀ {ds : List Dv} {ns : List Int}, intL ds = some ns → ds = ns.map Dv.int
  | [], ns, h => by
    cases h
    rfl
  | .int i :: r, ns, h => by
    unfold intL at h
    obtain ⟨ms, e, h⟩ := Option.map_eq_some_iff.mp h
    cases h
    rw [intL_ok e]
    rfl
  | .non :: _, _, h => by cases h
  | .bl _ :: _, _, h => by cases h
  | .str _ :: _, _, h => by cases h
  | .lst _ :: _, _, h => by cases h
  | .tup _ :: _, _, h => by cases h
  | .ins _ _ _ :: _, _, h => by cases h
  | .ty _ :: _, _, h => by cases h
  | .cls _ :: _, _, h => by cases h
  | .anyS :: _, _, h => by cases h
  | .dct _ _ :: _, _, h => by cases h
  | .exc _ _ _ :: _, _, h => by cases h
  | .scr _ _ :: _, _, h => by cases h
theorem intL_map : ∀ ns : List Int, intL (ns.map Dv.int) = some ns
  | [] => rfl
  | n :: r => by
    show (intL (r.map Dv.int)).map (n :: ·) = _
    rw [intL_map r]
    rfl
def gSum (env : DEnv) (x : RV) : Option RV := (seqL env x).bind fun xs => (intL xs).map fun ns => .d (.int ns.sum)
theorem rc_sum {K : PySem.W.Frag} : RC (rSum K) (g1 gSum) := rc_1 fun C env σ H Q x v z h R r k => by
  unfold gSum at h
  obtain ⟨xs, e, h⟩ := Option.bind_eq_some_iff.mp h
  obtain ⟨ns, e2, h⟩ := Option.map_eq_some_iff.mp h
  cases h
  obtain ⟨a, vs, rfl, ha, hs⟩ := seqL_ok R r e
  rw [intL_ok e2] at hs
  rw [hs.ints] at ha
  exact ⟨a, ns, rfl, SqL.of ha, fin_int R k⟩
/-- isinstance by a built-in class -/
inductive BT where
  | int | bool | str | list | tuple | dict
def BT.name : BT → String
  | .int => "int"
  | .bool => "bool"
  | .str => "str"
  | .list => "list"
  | .tuple => "tuple"
  | .dict => "dict"
def isIt : BT → Dv → Option Bool
  | _, .ins _ _ _ => none
  | _, .ty _ => none
  | _, .cls _ => none
  | _, .scr _ _ => none
  | _, .exc _ _ _ => none
  | .int, .int _ => some true
  | .int, .bl _ => some true
  | .bool, .bl _ => some true
  | .str, .str _ => some true
  | .str, .anyS => some true
  | .list, .lst _ => some true
  | .tuple, .tup _ => some true
  | .dict, .dct _ _ => some true
  | _, _ => some false
def fIsi (T : BT) (fa : EF) : EF := fun env => (fa env).bind fun p => (look p.2 p.1).bind fun d => (isIt T d).map fun b => (.d (.bl b), p.2)
theorem isIt_ok {K : PySem.W.Frag} {M : Addr → Prop} {H : Hp} {T : BT} {d : Dv} {v : V} {b : Bool} (h : isIt T d = some b) (hd : Dat M H d v) : ∃ t, TyX K H v t ∧ PySem.W.kitOne K t (.type T.name) = some b := by
  have kk : ∀ {a : String}, kitB a T.name = some b → PySem.W.kitOne K (.type a) (.type T.name) = some b := fun q => kit_ty q
  cases d <;> unfold Dat at hd
  case non =>
    subst hd
    refine ⟨_, .base .non, kk ?_⟩
    cases T <;> (simp only [isIt, Option.some.injEq] at h; subst h; decide +kernel)
  case bl b =>
    subst hd
    refine ⟨_, .base (.bl _), kk ?_⟩
    cases T <;> (simp only [isIt, Option.some.injEq] at h; subst h; decide +kernel)
  case int b =>
    subst hd
    refine ⟨_, .base (.int _), kk ?_⟩
    cases T <;> (simp only [isIt, Option.some.injEq] at h; subst h; decide +kernel)
  case str b =>
    subst hd
    refine ⟨_, .base (.str _), kk ?_⟩
    cases T <;> (simp only [isIt, Option.some.injEq] at h; subst h; decide +kernel)
  case anyS =>
    obtain ⟨x, rfl⟩ := hd
    refine ⟨_, .base (.str _), kk ?_⟩
    cases T <;> (simp only [isIt, Option.some.injEq] at h; subst h; decide +kernel)
  case lst xs =>
    obtain ⟨a, vs, rfl, _, ha, _⟩ := hd
    refine ⟨_, .base (.lst ha), kk ?_⟩
    cases T <;> (simp only [isIt, Option.some.injEq] at h; subst h; decide +kernel)
  case tup xs =>
    obtain ⟨a, vs, rfl, _, ha, _⟩ := hd
    refine ⟨_, .base (.tup ha), kk ?_⟩
    cases T <;> (simp only [isIt, Option.some.injEq] at h; subst h; decide +kernel)
  case dct ks xs =>
    obtain ⟨a, vs, rfl, _, ha, _⟩ := hd
    refine ⟨_, .base (.dK ha), kk ?_⟩
    cases T <;> (simp only [isIt, Option.some.injEq] at h; subst h; decide +kernel)
  case ins C ns ds => cases T <;> simp [isIt] at h
  case ty n => cases T <;> simp [isIt] at h
  case cls n => cases T <;> simp [isIt] at h
  case scr K ns => cases T <;> simp [isIt] at h
  case exc C ns ds => cases T <;> simp [isIt] at h
theorem re_isi {K : PySem.W.Frag} (T : BT) {ta : TE} {fa : EF} (ha : RE ta fa) : RE (tCB (rIsi K) (tCons ta (tCons (tC (.ty T.name)) tNil))) (fIsi T fa) := fun C env σ H Q rv env' h R k => by
  unfold fIsi at h
  obtain ⟨⟨x, e1⟩, h1, h⟩ := Option.bind_eq_some_iff.mp h
  obtain ⟨d, h2, h⟩ := Option.bind_eq_some_iff.mp h
  obtain ⟨b, h3, h⟩ := Option.map_eq_some_iff.mp h
  cases h
  refine ha C env σ H _ x e1 h1 R fun vx H1 R1 s1 g1 r1 => ?_
  obtain ⟨t, ht, hk⟩ := isIt_ok (K := K) h3 (look_ok R1 r1 h2)
  exact ⟨vx, .ty T.name, t, _, b, rfl, .ty _, ht, hk, k _ H1 R1 s1 g1 (show Dat (MM C e1 σ) H1 (.bl b) _ by unfold Dat; rfl)⟩
end DL

set_option Elab.async false
set_option linter.all false
set_option maxRecDepth 100000
set_option maxHeartbeats 4000000
namespace DL
open PySem L2 PyProof.Rows

/-! ### slots set, wiped, laid back -/
def wipeE : DEnv → List Nat → DEnv
  | env, [] => env
  | env, i :: is => (wipeE env is).set i .non
def backE (env0 : DEnv) : DEnv → List Nat → DEnv
  | env, [] => env
  | env, i :: is => match env0[i]? with
    | some s => (backE env0 env is).set i s
    | none => backE env0 env is
theorem set_get {α : Type} (l : List α) (i j : Nat) (x : α) : (l.set i x)[j]? = if i = j then (if i < l.length then some x else none) else l[j]? := by
  by_cases h : i = j
  · subst h
    rw [if_pos rfl]
    by_cases hl : i < l.length
    · rw [if_pos hl, List.getElem?_set_self hl]
    · rw [if_neg hl, List.getElem?_eq_none (by rw [List.length_set]; omega)]
  · rw [if_neg h, List.getElem?_set_ne h]
theorem wipe_get (σ : L2.St) : ∀ (vs : List Nat) (j : Nat), (wipe σ vs)[j]? = if j ∈ vs then (if j < σ.length then some none else none) else σ[j]?
  | [], j => by simp [wipe]
  | v :: vs, j => by
    unfold wipe
    rw [set_get, wipe_length, wipe_get σ vs j]
    by_cases h : v = j
    · subst h
      simp
    · rw [if_neg h]
      by_cases h2 : j ∈ vs
      · simp [h2]
      · simp [h2]
        exact fun e => absurd e.symm h
theorem wipeE_length (env : DEnv) : ∀ vs : List Nat, (wipeE env vs).length = env.length
  | [] => rfl
  | v :: vs => by
    unfold wipeE
    rw [List.length_set, wipeE_length env vs]
theorem wipeE_get (env : DEnv) : ∀ (vs : List Nat) (j : Nat), (wipeE env vs)[j]? = if j ∈ vs then (if j < env.length then some .non else none) else env[j]?
  | [], j => by simp [wipeE]
  | v :: vs, j => by
    unfold wipeE
    rw [set_get, wipeE_length, wipeE_get env vs j]
    by_cases h : v = j
    · subst h
      simp
    · rw [if_neg h]
      by_cases h2 : j ∈ vs
      · simp [h2]
      · simp [h2]
        exact fun e => absurd e.symm h
theorem backE_length (e0 env : DEnv) : ∀ vs : List Nat, (backE e0 env vs).length = env.length
  | [] => rfl
  | v :: vs => by
    unfold backE
    split
    · rw [List.length_set, backE_length e0 env vs]
    · exact backE_length e0 env vs
theorem backE_get {e0 env : DEnv} (hl : env.length = e0.length) : ∀ (vs : List Nat) (j : Nat), (backE e0 env vs)[j]? = if j ∈ vs then e0[j]? else env[j]?
  | [], j => by simp [backE]
  | v :: vs, j => by
    unfold backE
    split
    · rename_i s hs
      have hv : v < e0.length := (List.getElem?_eq_some_iff.mp hs).1
      rw [set_get, backE_length, backE_get hl vs j]
      by_cases h : v = j
      · subst h
        rw [if_pos rfl, if_pos (by rw [hl]; exact hv), if_pos (by simp), hs]
      · rw [if_neg h]
        by_cases h2 : j ∈ vs
        · simp [h2]
        · simp [h2]
          exact fun e => absurd e.symm h
    · rename_i hs
      rw [backE_get hl vs j]
      by_cases h2 : j ∈ vs
      · simp [h2]
      · by_cases h : j = v
        · subst h
          have hv : e0.length ≤ j := List.getElem?_eq_none_iff.mp hs
          simp [h2, hs]
          omega
        · simp [h2, h]
def NoOwn (ts : List Nat) (env : DEnv) : Prop := ∀ i ∈ ts, ∀ (b : OK) xs, env[i]? ≠ some (b.slot xs)
section
variable {C : DC} {env env' : DEnv} {σ : L2.St} {H H' : Hp} {v : V} {d : Dv}
theorem Rel.grow (R : Rel C env σ H) (k : ∀ a o, H a = some o → H' a = some o) : Rel C env σ H' where
  len := R.len
  dat := fun i d e => by
    obtain ⟨v, h1, h2⟩ := R.dat i d e
    exact ⟨v, h1, h2.to (fun a o _ q => k a o q) fun _ z => .inl z⟩
  own := fun i b xs e => by
    obtain ⟨a, vs, h1, h2, h3⟩ := R.own i b xs e
    exact ⟨a, vs, h1, k _ _ h2, Dats.to (fun a o _ q => k a o q) (fun _ z => .inl z) _ _ h3⟩
  fit := R.fit
  inj := R.inj
  io := R.io
  iob := R.iob
  no := R.no
  keep := fun a o n q => k a o (R.keep a o n q)
  mem := fun a m e => by
    cases q : H a with
    | none => exact R.mem a m q
    | some o =>
      rw [k a o q] at e
      cases e
  prv := R.prvTo rfl (fun _ _ z => ⟨z, rfl⟩) (fun a o _ q => k a o q) (fun _ z => .inl z)
theorem Rel.setDat (R : Rel C env σ H) {i : Nat} {s : Slot} (e : env[i]? = some s) (ns : ∀ xs, s ≠ .own true xs) (hd : Dat (MM C env σ) H d v) : Rel C (env.set i (.dat d)) (σ.set i (some v)) H ∧
    ∀ (j : Nat) (b : OK) xs, (env.set i (Slot.dat d))[j]? = some (b.slot xs) → env[j]? = some (b.slot xs) ∧ (σ.set i (some v))[j]? = σ[j]? := by
  have hi : i < env.length := (List.getElem?_eq_some_iff.mp e).1
  have hs : i < σ.length := by rw [R.len]; exact hi
  have own : ∀ (j : Nat) (b : OK) xs, (env.set i (Slot.dat d))[j]? = some (b.slot xs) → env[j]? = some (b.slot xs) ∧ (σ.set i (some v))[j]? = σ[j]? := fun j b xs q => by
    rw [set_get] at q
    by_cases h : i = j
    · rw [if_pos h, if_pos hi] at q
      exact (OK.nodat (Option.some.inj q).symm).elim
    · rw [if_neg h] at q
      exact ⟨q, List.getElem?_set_ne h⟩
  have w : ∀ a, W (env.set i (.dat d)) (σ.set i (some v)) a → W env σ a := fun a ⟨j, b, xs, h1, h2⟩ => by
    obtain ⟨h3, h4⟩ := own j b xs h1
    exact ⟨j, b, xs, h3, by rw [← h4]; exact h2⟩
  have m : ∀ a, MM C (env.set i (.dat d)) (σ.set i (some v)) a → MM C env σ a := fun a z => z.imp id (w a)
  refine ⟨⟨by rw [List.length_set, List.length_set]; exact R.len, fun j x q => ?_, fun j b xs q => ?_, fun j b xs q => R.fit j b xs (own j b xs q).1, fun j k b c xs ys a q1 q2 h1 h2 => ?_, fun j xs q => R.io j xs (own j (.lst true) _ q).1, fun j a q => ?_, fun j b xs a nb q h1 => ?_, R.keep, R.mem, R.prvTo rfl (fun j x q => by
    rw [set_get] at q
    by_cases h : i = j
    · rw [if_pos h, if_pos hi] at q
      cases q
    · rw [if_neg h] at q
      exact ⟨q, List.getElem?_set_ne h⟩) (fun _ _ _ q => q) (fun a z => .inl (m a z))⟩, own⟩
  · rw [set_get] at q
    by_cases h : i = j
    · rw [if_pos h, if_pos hi] at q
      cases q
      exact ⟨v, by rw [set_get, if_pos h, if_pos hs], hd.to (fun _ _ _ q => q) fun a z => .inl (m a z)⟩
    · rw [if_neg h] at q
      obtain ⟨u, h1, h2⟩ := R.dat j x q
      exact ⟨u, by rw [set_get, if_neg h]; exact h1, h2.to (fun _ _ _ q => q) fun a z => .inl (m a z)⟩
  · obtain ⟨h3, h4⟩ := own j b xs q
    obtain ⟨a, vs, h5, h6, h7⟩ := R.own j b xs h3
    exact ⟨a, vs, by rw [h4]; exact h5, h6, Dats.to (fun _ _ _ q => q) (fun a z => .inl (m a z)) _ _ h7⟩
  · obtain ⟨h3, h4⟩ := own j _ _ q1
    obtain ⟨h5, h6⟩ := own k _ _ q2
    exact R.inj j k b c xs ys a h3 h5 (by rw [← h4]; exact h1) (by rw [← h6]; exact h2)
  · obtain ⟨h1, xs, h2, h3⟩ := R.iob j a q
    have n : i ≠ j := fun z => by
      subst z
      rw [e] at h2
      exact ns xs (Option.some.inj h2)
    exact ⟨h1, xs, by rw [set_get, if_neg n]; exact h2, by rw [set_get, if_neg n]; exact h3⟩
  · obtain ⟨h3, h4⟩ := own j _ _ q
    exact R.no j b xs a nb h3 (by rw [← h4]; exact h1)
theorem Rel.wiped (R : Rel C env σ H) {ts : List Nat} (n : NoOwn ts env) : Rel C (wipeE env ts) (wipe σ ts) H ∧ (∀ a, W (wipeE env ts) (wipe σ ts) a ↔ W env σ a) := by
  have own : ∀ (j : Nat) (b : OK) xs, (wipeE env ts)[j]? = some (b.slot xs) → env[j]? = some (b.slot xs) ∧ (wipe σ ts)[j]? = σ[j]? := fun j b xs q => by
    rw [wipeE_get] at q
    by_cases h : j ∈ ts
    · rw [if_pos h] at q
      split at q
      · exact (OK.nonon (Option.some.inj q).symm).elim
      · cases q
    · rw [if_neg h] at q
      exact ⟨q, by rw [wipe_get, if_neg h]⟩
  have own' : ∀ (j : Nat) (b : OK) xs, env[j]? = some (b.slot xs) → (wipeE env ts)[j]? = some (b.slot xs) ∧ (wipe σ ts)[j]? = σ[j]? := fun j b xs q => by
    have h : j ∉ ts := fun h => n j h b xs q
    rw [wipeE_get, if_neg h, wipe_get, if_neg h]
    exact ⟨q, rfl⟩
  have w : ∀ a, W (wipeE env ts) (wipe σ ts) a ↔ W env σ a := fun a => by
    constructor
    · rintro ⟨j, b, xs, h1, h2⟩
      obtain ⟨h3, h4⟩ := own j b xs h1
      exact ⟨j, b, xs, h3, by rw [← h4]; exact h2⟩
    · rintro ⟨j, b, xs, h1, h2⟩
      obtain ⟨h3, h4⟩ := own' j b xs h1
      exact ⟨j, b, xs, h3, by rw [h4]; exact h2⟩
  have m : ∀ a, MM C (wipeE env ts) (wipe σ ts) a → MM C env σ a := fun a z => z.imp id (w a).mp
  refine ⟨⟨by rw [wipe_length, wipeE_length]; exact R.len, fun j x q => ?_, fun j b xs q => ?_, fun j b xs q => R.fit j b xs (own j b xs q).1, fun j k b c xs ys a q1 q2 h1 h2 => ?_, fun j xs q => R.io j xs (own j (.lst true) _ q).1, fun j a q => ?_, fun j b xs a nb q h1 => ?_, R.keep, R.mem, R.prvTo rfl (fun j x q => by
    rw [wipeE_get] at q
    by_cases h : j ∈ ts
    · rw [if_pos h] at q
      split at q <;> cases q
    · rw [if_neg h] at q
      exact ⟨q, by rw [wipe_get, if_neg h]⟩) (fun _ _ _ q => q) (fun a z => .inl (m a z))⟩, w⟩
  · rw [wipeE_get] at q
    by_cases h : j ∈ ts
    · rw [if_pos h] at q
      split at q <;> cases q
    · rw [if_neg h] at q
      obtain ⟨u, h1, h2⟩ := R.dat j x q
      exact ⟨u, by rw [wipe_get, if_neg h]; exact h1, h2.to (fun _ _ _ q => q) fun a z => .inl (m a z)⟩
  · obtain ⟨h3, h4⟩ := own j b xs q
    obtain ⟨a, vs, h5, h6, h7⟩ := R.own j b xs h3
    exact ⟨a, vs, by rw [h4]; exact h5, h6, Dats.to (fun _ _ _ q => q) (fun a z => .inl (m a z)) _ _ h7⟩
  · obtain ⟨h3, h4⟩ := own j _ _ q1
    obtain ⟨h5, h6⟩ := own k _ _ q2
    exact R.inj j k b c xs ys a h3 h5 (by rw [← h4]; exact h1) (by rw [← h6]; exact h2)
  · obtain ⟨h1, xs, h2, h3⟩ := R.iob j a q
    obtain ⟨h4, h5⟩ := own' j (.lst true) _ h2
    exact ⟨h1, xs, h4, by rw [h5]; exact h3⟩
  · obtain ⟨h3, h4⟩ := own j _ _ q
    exact R.no j b xs a nb h3 (by rw [← h4]; exact h1)
end

/-! ### targets -/
abbrev GF := Dv → DEnv → Option DEnv
abbrev GFs := List Dv → DEnv → Option DEnv
def RG (g : TG) (ts : List Nat) (f : GF) : Prop := ∀ (C : DC) (env : DEnv) (σ : L2.St) (H : Hp) (d : Dv) (v : V) (Q : L2.St → Hp → Prop) (env' : DEnv), f d env = some env' → Rel C env σ H → Dat (MM C env σ) H d v →
  (∀ σ', Rel C env' σ' H → (∀ vs, (∀ i ∈ ts, i ∈ vs) → wipe σ' vs = wipe σ vs) → (∀ (j : Nat) (b : OK) xs, env'[j]? = some (b.slot xs) → (env[j]? = some (b.slot xs) ∧ σ'[j]? = σ[j]?)) → NoOwn ts env' → (∀ j, j ∉ ts → env'[j]? = env[j]?) → Q σ' H) → g v σ H Q
def RGs (g : TGs) (ts : List Nat) (f : GFs) : Prop := ∀ (C : DC) (env : DEnv) (σ : L2.St) (H : Hp) (ds : List Dv) (vs : List V) (Q : L2.St → Hp → Prop) (env' : DEnv), f ds env = some env' → Rel C env σ H → Dats (MM C env σ) H ds vs →
  (∀ σ', Rel C env' σ' H → (∀ vs, (∀ i ∈ ts, i ∈ vs) → wipe σ' vs = wipe σ vs) → (∀ (j : Nat) (b : OK) xs, env'[j]? = some (b.slot xs) → (env[j]? = some (b.slot xs) ∧ σ'[j]? = σ[j]?)) → NoOwn ts env' → (∀ j, j ∉ ts → env'[j]? = env[j]?) → Q σ' H) → g vs σ H Q
def fName (i : Nat) : GF := fun d env => match env[i]? with
  | none => none
  | some (.own true _) => none
  | some _ => some (env.set i (.dat d))
theorem wipe_set {σ : L2.St} {i : Nat} {x : Option V} {vs : List Nat} (h : i ∈ vs) : wipe (σ.set i x) vs = wipe σ vs := by
  apply List.ext_getElem?
  intro j
  rw [wipe_get, wipe_get, List.length_set]
  by_cases hj : j ∈ vs
  · rw [if_pos hj, if_pos hj]
  · rw [if_neg hj, if_neg hj, List.getElem?_set_ne (fun e => hj (by rw [← e]; exact h))]
theorem rg_name {i : Nat} : RG (gName i) [i] (fName i) := fun C env σ H d v Q env' h R hd k => by
  unfold fName at h
  split at h
  · cases h
  · cases h
  · rename_i s ns e
    cases h
    obtain ⟨R', own⟩ := R.setDat e (fun xs z => ns xs (by rw [z])) hd
    refine k _ R' (fun vs hv => wipe_set (hv i (by simp))) own (fun j hj b xs q => ?_) fun j hj => ?_
    · have e2 : j = i := by simpa using hj
      subst e2
      rw [set_get, if_pos rfl] at q
      split at q
      · exact (OK.nodat (Option.some.inj q).symm).elim
      · cases q
    · rw [set_get, if_neg (fun z => hj (by simp [z]))]
def fGnil : GFs := fun ds env => match ds with
  | [] => some env
  | _ => none
def fGcons (f : GF) (g : GFs) : GFs := fun ds env => match ds with
  | d :: r => (f d env).bind (g r)
  | [] => none
theorem rgs_nil : RGs gNil [] fGnil := fun C env σ H ds vs Q env' h R hd k => by
  match ds, h with
  | [], h =>
    cases h
    unfold Dats at hd
    subst hd
    exact ⟨rfl, k σ R (fun _ _ => rfl) (fun j b xs q => ⟨q, rfl⟩) (fun j hj => by cases hj) fun _ _ => rfl⟩
theorem rgs_cons {g : TG} {u : TGs} {f : GF} {fs : GFs} {ts us : List Nat} (hg : RG g ts f) (hu : RGs u us fs) : RGs (gCons g u) (ts ++ us) (fGcons f fs) := fun C env σ H ds vs Q env' h R hd k => by
  match ds, h with
  | d :: r, h =>
    unfold fGcons at h
    obtain ⟨e1, h1, h2⟩ := Option.bind_eq_some_iff.mp h
    unfold Dats at hd
    obtain ⟨v, ws, rfl, d1, d2⟩ := hd
    refine ⟨v, ws, rfl, hg C env σ H d v _ e1 h1 R d1 fun σ1 R1 w1 o1 n1 k1 => ?_⟩
    have m : ∀ a, MM C e1 σ1 a → MM C env σ a := fun a z => z.imp id fun ⟨j, b, xs, q1, q2⟩ => ⟨j, b, xs, (o1 j b xs q1).1, by rw [← (o1 j b xs q1).2]; exact q2⟩
    refine hu C e1 σ1 H r ws _ env' h2 R1 (Dats.to (fun _ _ _ q => q) (fun a z => .inl (m a z)) _ _ d2) fun σ2 R2 w2 o2 n2 k2 => ?_
    refine k σ2 R2 (fun vs hv => ?_) (fun j b xs q => ?_) (fun j hj b xs q => ?_) fun j hj => ?_
    · rw [w2 vs fun i hi => hv i (List.mem_append_right _ hi), w1 vs fun i hi => hv i (List.mem_append_left _ hi)]
    · obtain ⟨q1, q2⟩ := o2 j b xs q
      obtain ⟨q3, q4⟩ := o1 j b xs q1
      exact ⟨q3, by rw [q2, q4]⟩
    · rcases List.mem_append.mp hj with z | z
      · exact n1 j z b xs (o2 j b xs q).1
      · exact n2 j z b xs q
    · rw [k2 j fun z => hj (List.mem_append_right _ z), k1 j fun z => hj (List.mem_append_left _ z)]
def fGtup (n : Nat) (f : GFs) : GF := fun d env => match d with
  | .tup xs => if xs.length = n then f xs env else none
  | _ => none
theorem rg_tup {K : PySem.W.Frag} {n : Nat} {t : TGs} {f : GFs} {ts : List Nat} (h : RGs t ts f) : RG (gTup K n t) ts (fGtup n f) := fun C env σ H d v Q env' e R hd k => by
  unfold fGtup at e
  split at e
  · rename_i xs
    split at e
    · rename_i hn
      unfold Dat at hd
      obtain ⟨a, vs, rfl, na, ha, hs⟩ := hd
      exact ⟨a, vs, rfl, SqT.of ha, by rw [hs.length]; exact hn, h C env σ H xs vs Q env' e R hs k⟩
    · cases e
  · cases e

/-! ### statements -/
inductive Out where
  | nx (e : DEnv)
  | bk (e : DEnv)
  | ct (e : DEnv)
  | rt (d : Dv) (e : DEnv)
abbrev SF := DEnv → Option Out
def Post (C : DC) (D : Ends) : Out → Prop
  | .nx e => ∀ σ H, Rel C e σ H → D.nx σ H
  | .bk e => ∀ σ H, Rel C e σ H → D.bk σ H
  | .ct e => ∀ σ H, Rel C e σ H → D.ct σ H
  | .rt d e => ∀ σ H v, Rel C e σ H → Dat (MM C e σ) H d v → D.rt v H
def RS (t : TS) (g : SF) : Prop := ∀ (C : DC) (env : DEnv) (σ : L2.St) (H : Hp) (D : Ends) (o : Out), g env = some o → Rel C env σ H → Post C D o → t D σ H
def sNext : SF := fun env => some (.nx env)
def sSeq (f g : SF) : SF := fun env => (f env).bind fun o => match o with
  | .nx e => g e
  | o => some o
def sBreak : SF := fun env => some (.bk env)
def sCont : SF := fun env => some (.ct env)
def sNever : SF := fun _ => none
def sAsg (fe : EF) (f : GF) : SF := fun env => (fe env).bind fun p => (frz p.2 p.1).bind fun q => (f q.1 q.2).map Out.nx
def sRet (fe : EF) : SF := fun env => (fe env).bind fun p => (frz p.2 p.1).map fun q => .rt q.1 q.2
def sRetN : SF := fun env => some (.rt .non env)
def sIf (ft : TF) (f g : SF) : SF := fun env => (ft env).bind fun p => if p.1 = true then f p.2 else g p.2
def sDrop (fe : EF) : SF := fun env => (fe env).map fun p => .nx p.2
section
variable {t u : TS} {f g : SF} {te : TE} {fe : EF} {tt : TT} {ft : TF}
theorem rs_next : RS tNext sNext := fun C env σ H D o h R k => by
  cases h
  exact k σ H R
theorem rs_break : RS tBreak sBreak := fun C env σ H D o h R k => by
  cases h
  exact k σ H R
theorem rs_cont : RS tCont sCont := fun C env σ H D o h R k => by
  cases h
  exact k σ H R
theorem rs_never : RS tNever sNever := fun C env σ H D o h R k => by cases h
theorem rs_seq (hf : RS t f) (hg : RS u g) : RS (tSeq t u) (sSeq f g) := fun C env σ H D o h R k => by
  unfold sSeq at h
  obtain ⟨o1, h1, h⟩ := Option.bind_eq_some_iff.mp h
  cases o1 with
  | nx e => exact hf C env σ H { D with nx := u D } _ h1 R fun σ1 H1 R1 => hg C e σ1 H1 D o h R1 k
  | bk e =>
    cases h
    exact hf C env σ H { D with nx := u D } _ h1 R k
  | ct e =>
    cases h
    exact hf C env σ H { D with nx := u D } _ h1 R k
  | rt d e =>
    cases h
    exact hf C env σ H { D with nx := u D } _ h1 R k
theorem rs_asg {tg : TG} {ts : List Nat} {gf : GF} (he : RE te fe) (hg : RG tg ts gf) : RS (tAsg te tg) (sAsg fe gf) := fun C env σ H D o h R k => by
  unfold sAsg at h
  obtain ⟨⟨x, e1⟩, h1, h⟩ := Option.bind_eq_some_iff.mp h
  obtain ⟨⟨d, e2⟩, h2, h⟩ := Option.bind_eq_some_iff.mp h
  obtain ⟨e3, h3, h⟩ := Option.map_eq_some_iff.mp h
  cases h
  refine he C env σ H _ x e1 h1 R fun v H1 R1 s1 g1 r1 => ?_
  obtain ⟨R2, s2, d2⟩ := frz_ok R1 r1 h2
  exact hg C e2 σ H1 d v _ e3 h3 R2 d2 fun σ' R3 _ _ _ _ => k σ' H1 R3
theorem rs_ret (he : RE te fe) : RS (tRet te) (sRet fe) := fun C env σ H D o h R k => by
  unfold sRet at h
  obtain ⟨⟨x, e1⟩, h1, h⟩ := Option.bind_eq_some_iff.mp h
  obtain ⟨⟨d, e2⟩, h2, h⟩ := Option.map_eq_some_iff.mp h
  cases h
  refine he C env σ H _ x e1 h1 R fun v H1 R1 s1 g1 r1 => ?_
  obtain ⟨R2, s2, d2⟩ := frz_ok R1 r1 h2
  exact k σ H1 v R2 d2
theorem rs_retN : RS tRetN sRetN := fun C env σ H D o h R k => by
  cases h
  exact k σ H .non R (by unfold Dat; rfl)
theorem rs_if (hc : RT tt ft) (hf : RS t f) (hg : RS u g) : RS (tIfS tt t u) (sIf ft f g) := fun C env σ H D o h R k => by
  unfold sIf at h
  obtain ⟨⟨b, e1⟩, h1, h⟩ := Option.bind_eq_some_iff.mp h
  refine hc C env σ H _ b e1 h1 R fun H1 R1 s1 g1 => ?_
  cases b with
  | true => exact hf C e1 σ H1 D o h R1 k
  | false => exact hg C e1 σ H1 D o h R1 k
theorem rs_drop (he : RE te fe) : RS (tDrop te) (sDrop fe) := fun C env σ H D o h R k => by
  unfold sDrop at h
  obtain ⟨⟨x, e1⟩, h1, h⟩ := Option.map_eq_some_iff.mp h
  cases h
  exact he C env σ H _ x e1 h1 R fun v H1 R1 s1 g1 r1 => k σ H1 R1
end
end DL

set_option Elab.async false
set_option linter.all false
set_option maxRecDepth 100000
set_option maxHeartbeats 4000000
namespace DL
open PySem L2 PyProof.Rows

/-! ### what is walked -/
structure ItD (J : It) (ds : List Dv) (M : Addr → Prop) (Hs : Hp) : Prop where
  walk : Walk J ds.length (fun H => ∀ a o, ¬ M a → Hs a = some o → H a = some o)
    (fun i H x H' => (∀ a o, H a = some o → H' a = some o) ∧ ∀ M2 : Addr → Prop, (∀ a, M2 a → M a ∨ Hs a = none) → (∀ a, M2 a → H a ≠ none) → ∀ d, ds[i]? = some d → Dat M2 H' d x)
abbrev IF := DEnv → Option (List Dv × DEnv)
def RI (wi : TI) (f : IF) : Prop := ∀ (C : DC) (env : DEnv) (σ : L2.St) (H : Hp) (R : It → Hp → Prop) (ds : List Dv) (env' : DEnv), f env = some (ds, env') → Rel C env σ H →
  (∀ J H', Rel C env' σ H' → Sh env env' → Grow env σ H H' → ItD J ds (MM C env' σ) H' → R J H') → wi σ H R
theorem itd_of {M : Addr → Prop} {Hs : Hp} {J : It} {ds : List Dv} {vs : List V} (hs : Dats M Hs ds vs)
    (w : Walk J vs.length (fun H => ∀ a o, ¬ M a → Hs a = some o → H a = some o) (YAt vs)) : ItD J ds M Hs := by
  refine ⟨?_⟩
  rw [← hs.length]
  refine w.mono (fun _ h => h) fun i H x H' hi hg y => ?_
  obtain ⟨rfl, hx⟩ := y
  refine ⟨fun _ _ q => q, fun M2 m _ d hd => ?_⟩
  obtain ⟨v, h1, h2⟩ := hs.get hd
  rw [hx] at h1
  cases h1
  exact h2.to hg m
/-- a list or a tuple -/
def fSeqIt (fa : EF) : IF := fun env => (fa env).bind fun p => (frz p.2 p.1).bind fun q => match q.1 with
  | .lst xs => some (xs, q.2)
  | .tup xs => some (xs, q.2)
  | _ => none
def iSeq (K : PySem.W.Frag) (tl : TE) : TI := fun σ H R => tl σ H fun x H1 => ∃ a, x = .ref a ∧ (((∃ xs, SqL K H1 a xs) ∧ R (Itl K a) H1) ∨ ((∃ xs, SqT K H1 a xs) ∧ R (Itt K a) H1))
theorem pi_seq {X : Cx} {tg l : Expr} {tl : TE} (hl : PE X l tl) : PI X tg l (iSeq X.K tl) := by
  refine ⟨fun pins s σ H R I h => ?_⟩
  refine thn (hl.run pins s σ H _ I h) fun v s1 ⟨x, H1, I1, r1, q1⟩ => ?_
  obtain ⟨a, e, q1⟩ := q1
  subst e
  cases r1
  rcases q1 with ⟨⟨xs, hq⟩, q⟩ | ⟨⟨xs, hq⟩, q⟩
  · obtain ⟨its, rv, p, hz⟩ := I1.list hq
    refine wpAny_pyIter_list p.isList ?_
    refine ⟨s1.heap.objs.size, [s1.heap.objs.size], _, _, H1, rfl, I1.kept (t' := s1.toks) fun b o e => Heap.get?_push_of_some _ e, turn_list a _, ⟨_, Heap.get?_push_size _ rfl, rfl, rfl⟩, fun b hb => ?_, q⟩
    have e : b = s1.heap.objs.size := by simpa using hb
    subst e
    exact I1.fpOk (Nat.le_refl _) (I1.hok.fresh (Nat.le_refl _))
  · obtain ⟨its, rv, p, hz⟩ := I1.tuple hq
    refine wpAny_pyIter_tuple (show s1.heap.IsTuple a its.toArray from p) ?_
    refine ⟨s1.heap.objs.size, [s1.heap.objs.size], _, _, H1, rfl, I1.kept (t' := s1.toks) fun b o e => Heap.get?_push_of_some _ e, turn_tuple a _, ⟨_, Heap.get?_push_size _ rfl, rfl, rfl⟩, fun b hb => ?_, q⟩
    have e : b = s1.heap.objs.size := by simpa using hb
    subst e
    exact I1.fpOk (Nat.le_refl _) (I1.hok.fresh (Nat.le_refl _))
theorem ri_seq {K : PySem.W.Frag} {ta : TE} {fa : EF} (ha : RE ta fa) : RI (iSeq K ta) (fSeqIt fa) := fun C env σ H R ds env' h Re k => by
  unfold fSeqIt at h
  obtain ⟨⟨x, e1⟩, h1, h⟩ := Option.bind_eq_some_iff.mp h
  obtain ⟨⟨d, e2⟩, h2, h⟩ := Option.bind_eq_some_iff.mp h
  refine ha C env σ H _ x e1 h1 Re fun v H1 R1 s1 g1 r1 => ?_
  obtain ⟨R2, s2, d2⟩ := frz_ok R1 r1 h2
  simp only at h
  split at h
  · cases h
    unfold Dat at d2
    obtain ⟨a, vs, rfl, na, hha, hs⟩ := d2
    refine ⟨a, rfl, .inl ⟨⟨vs, SqL.of hha⟩, k _ H1 R2 (s1.trans s2) g1 (itd_of hs ?_)⟩⟩
    exact walk_list.mono (fun H q => SqL.of (q a _ na hha)) fun _ _ _ _ _ _ y => y
  · cases h
    unfold Dat at d2
    obtain ⟨a, vs, rfl, na, hha, hs⟩ := d2
    refine ⟨a, rfl, .inr ⟨⟨vs, SqT.of hha⟩, k _ H1 R2 (s1.trans s2) g1 (itd_of hs ?_)⟩⟩
    exact walk_tup.mono (fun H q => SqT.of (q a _ na hha)) fun _ _ _ _ _ _ y => y
  · cases h
/-- range -/
def rangeD (lo : Int) (n : Nat) : List Dv := (List.range n).map fun (i : Nat) => .int (lo + (i : Int))
theorem itd_range {lo : Int} {n : Nat} {M : Addr → Prop} {H : Hp} : ItD (Itr lo n) (rangeD lo n) M H := by
  refine ⟨?_⟩
  have e : (rangeD lo n).length = n := by simp [rangeD]
  rw [e]
  refine walk_range.mono (fun _ _ => True.intro) fun i H x H' hi _ y => ?_
  obtain ⟨rfl, rfl⟩ := y
  refine ⟨fun _ _ q => q, fun M2 m _ d hd => ?_⟩
  simp [rangeD, hi] at hd
  subst hd
  unfold Dat
  rfl
def rngC (j : Int) : Prop := -(2 ^ 62) ≤ j ∧ j < 2 ^ 62
noncomputable instance (j : Int) : Decidable (rngC j) := Classical.propDecidable _
noncomputable def fRng1 (fa : AF) : IF := fun env => (fa env).bind fun p => match p.1 with
  | [x] => (asI p.2 x).bind fun j => if rngC j then some (rangeD 0 j.toNat, p.2) else none
  | _ => none
noncomputable def fRng2 (fa : AF) : IF := fun env => (fa env).bind fun p => match p.1 with
  | [x, y] => (asI p.2 x).bind fun i => (asI p.2 y).bind fun j => if rngC i ∧ rngC j then some (rangeD i (j - i).toNat, p.2) else none
  | _ => none
theorem ri_rng1 {ta : TA} {fa : AF} (ha : RA ta fa) : RI (iRng1 ta) (fRng1 fa) := fun C env σ H R ds env' h Re k => by
  unfold fRng1 at h
  obtain ⟨⟨xs, e1⟩, h1, h⟩ := Option.bind_eq_some_iff.mp h
  refine ha C env σ H _ xs e1 h1 Re fun vs H1 R1 s1 g1 r1 => ?_
  match xs, h with
  | [x], h =>
    obtain ⟨v, rfl, r2⟩ := rvs1 r1
    obtain ⟨j, h2, h⟩ := Option.bind_eq_some_iff.mp h
    split at h
    · rename_i hj
      cases h
      exact ⟨j, by rw [asI_ok R1 r2 h2], hj.1, hj.2, k _ H1 R1 s1 g1 itd_range⟩
    · cases h
theorem ri_rng2 {ta : TA} {fa : AF} (ha : RA ta fa) : RI (iRng2 ta) (fRng2 fa) := fun C env σ H R ds env' h Re k => by
  unfold fRng2 at h
  obtain ⟨⟨xs, e1⟩, h1, h⟩ := Option.bind_eq_some_iff.mp h
  refine ha C env σ H _ xs e1 h1 Re fun vs H1 R1 s1 g1 r1 => ?_
  match xs, h with
  | [x, y], h =>
    obtain ⟨v, w, rfl, r2, r3⟩ := rvs2 r1
    obtain ⟨i, h2, h⟩ := Option.bind_eq_some_iff.mp h
    obtain ⟨j, h3, h⟩ := Option.bind_eq_some_iff.mp h
    split at h
    · rename_i hj
      cases h
      exact ⟨i, j, by rw [asI_ok R1 r2 h2, asI_ok R1 r3 h3], ⟨hj.1.1, hj.1.2, hj.2.1, hj.2.2⟩, k _ H1 R1 s1 g1 itd_range⟩
    · cases h

/-! ### for -/
def loopF (gf : GF) (gb : SF) : List Dv → DEnv → Option Out
  | [], e => some (.nx e)
  | d :: r, e => (gf d e).bind fun e1 => (gb e1).bind fun o => match o with
    | .nx e2 => loopF gf gb r e2
    | .ct e2 => loopF gf gb r e2
    | .bk e2 => some (.nx e2)
    | .rt d e2 => some (.rt d e2)
def sFor (fi : IF) (gf : GF) (gb : SF) : SF := fun env => (fi env).bind fun p => loopF gf gb p.1 p.2
open Classical in
/-- the context within a loop: what stands there (but the owners' lists) stays -/
noncomputable def DC.hold (C : DC) (env : DEnv) (σ : L2.St) (H : Hp) : DC := { C with H0 := fun a => if W env σ a ∨ C.pv a then none else H a, pvm := fun a h => ⟨(C.pvm a h).1, (C.pvm a h).2.1, if_pos (.inr h)⟩ }
section
variable {C : DC} {env env' : DEnv} {σ σ' : L2.St} {H H' : Hp}
theorem Rel.hold (R : Rel C env σ H) : Rel (C.hold env σ H) env σ H where
  len := R.len
  dat := R.dat
  own := R.own
  fit := R.fit
  inj := R.inj
  io := R.io
  iob := R.iob
  no := fun i k xs a nk e1 e2 => ⟨if_pos (.inl ⟨i, k, xs, e1, e2⟩), (R.no i k xs a nk e1 e2).2⟩
  keep := fun a o _ q => by
    simp only [DC.hold] at q
    split at q
    · cases q
    · exact q
  mem := R.mem
  prv := R.prvTo rfl (fun _ _ z => ⟨z, rfl⟩) (fun _ _ _ q => q) (fun _ z => .inl z)
open Classical in
theorem Rel.unhold (R0 : Rel C env σ H) (R : Rel (C.hold env σ H) env' σ' H') : Rel C env' σ' H' where
  len := R.len
  dat := R.dat
  own := R.own
  fit := R.fit
  inj := R.inj
  io := R.io
  iob := R.iob
  no := fun i k xs a nk e1 e2 => by
    obtain ⟨h1, h2⟩ := R.no i k xs a nk e1 e2
    refine ⟨?_, h2⟩
    simp only [DC.hold] at h1
    split at h1
    · rename_i w
      rcases w with w | w
      case inr => exact (C.pvm a w).2.2
      obtain ⟨j, b, ys, q1, q2⟩ := w
      by_cases hb : b = .lst true
      case neg => exact (R0.no j b ys a hb q1 q2).1
      case pos =>
        subst hb
        obtain ⟨a', q3⟩ := R0.io j ys q1
        obtain ⟨q4, zs, q5, q6⟩ := R0.iob j a' q3
        rw [q2] at q6
        cases q6
        exact absurd q4 h2
    · exact R0.h0 h1
  keep := fun a o n q => by
    have h1 := R0.keep a o n q
    refine R.keep a o n ?_
    show (if W env σ a ∨ C.pv a then none else H a) = some o
    rw [if_neg, h1]
    rintro (⟨j, b, ys, q1, q2⟩ | w)
    case inr =>
      rw [(C.pvm a w).2.2] at q
      cases q
    by_cases hb : b = .lst true
    case neg =>
      rw [(R0.no j b ys a hb q1 q2).1] at q
      cases q
    case pos =>
      subst hb
      obtain ⟨a', q3⟩ := R0.io j ys q1
      obtain ⟨q4, zs, q5, q6⟩ := R0.iob j a' q3
      rw [q2] at q6
      cases q6
      exact n j q3
  mem := R.mem
  prv := R.prvTo rfl (fun _ _ z => ⟨z, rfl⟩) (fun _ _ _ q => q) (fun _ z => .inl z)
open Classical in
theorem Rel.held (R0 : Rel C env σ H) (R : Rel (C.hold env σ H) env' σ' H') : ∀ a o, ¬ MM C env σ a → H a = some o → H' a = some o := fun a o n q => by
  refine R.keep a o (fun i e => n (.inl (R0.iob i a e).1)) ?_
  show (if W env σ a ∨ C.pv a then none else H a) = some o
  rw [if_neg (fun z => n (z.elim .inr fun z => .inl (C.pvm a z).1)), q]
theorem Rel.heldM (R0 : Rel C env σ H) (R : Rel (C.hold env σ H) env' σ' H') : ∀ a, MM C env' σ' a → MM C env σ a ∨ H a = none := fun a z => by
  rcases z with z | ⟨j, b, ys, q1, q2⟩
  · exact .inl (.inl z)
  · by_cases hb : b = .lst true
    case pos =>
      subst hb
      obtain ⟨a', q3⟩ := R.io j ys q1
      obtain ⟨q4, zs, q5, q6⟩ := R.iob j a' q3
      rw [q2] at q6
      cases q6
      exact .inl (.inl q4)
    case neg =>
      obtain ⟨h1, h2⟩ := R.no j b ys a hb q1 q2
      simp only [DC.hold] at h1
      split at h1
      · rename_i w
        exact .inl (w.elim .inr fun z => .inl (C.pvm a z).1)
      · exact .inr h1
theorem Rel.memM (R : Rel C env σ H) : ∀ a, MM C env σ a → H a ≠ none := fun a z e => R.fresh e z
end
theorem rs_for {wi : TI} {fi : IF} {tg : TG} {ts : List Nat} {gf : GF} {tb : TS} {gb : SF} (hi : RI wi fi) (hg : RG tg ts gf) (hb : RS tb gb) : RS (tFor wi tg tb) (sFor fi gf gb) := fun C env σ H D o h R k => by
  unfold sFor at h
  obtain ⟨⟨ds, e1⟩, h1, h⟩ := Option.bind_eq_some_iff.mp h
  refine hi C env σ H _ ds e1 h1 R fun J H1 R1 s1 g1 it => ?_
  refine for_it it.walk (fun i σ' H' => ∃ ei, loopF gf gb (ds.drop i) ei = some o ∧ Rel (C.hold e1 σ H1) ei σ' H') ⟨e1, h, R1.hold⟩ (fun i σ' H' _ ⟨ei, _, Ri⟩ => R1.held Ri) (fun i x σ' H2 H3 hi ⟨ei, hl, Ri⟩ ⟨y1, y2⟩ => ?_) fun σ' H' ⟨ei, hl, Ri⟩ => ?_
  · have hd : ds.drop i = ds[i] :: ds.drop (i + 1) := List.drop_eq_getElem_cons hi
    rw [hd] at hl
    unfold loopF at hl
    obtain ⟨e2, h2, hl⟩ := Option.bind_eq_some_iff.mp hl
    obtain ⟨o2, h3, hl⟩ := Option.bind_eq_some_iff.mp hl
    have dx : Dat (MM (C.hold e1 σ H1) ei σ') H3 ds[i] x := y2 _ (fun a z => R1.heldM Ri a z) (fun a z => Ri.memM a z) _ (List.getElem?_eq_getElem hi)
    refine hg _ ei σ' H3 ds[i] x _ e2 h2 (Ri.grow y1) dx fun σ2 R2 _ _ _ _ => ?_
    refine hb _ e2 σ2 H3 _ o2 h3 R2 ?_
    cases o2 with
    | nx e3 => exact fun σ4 H4 R4 => ⟨e3, hl, R4⟩
    | ct e3 => exact fun σ4 H4 R4 => ⟨e3, hl, R4⟩
    | bk e3 =>
      cases hl
      exact fun σ4 H4 R4 => k σ4 H4 (R1.unhold R4)
    | rt d e3 =>
      cases hl
      exact fun σ4 H4 v R4 dv => k σ4 H4 v (R1.unhold R4) dv
  · rw [List.drop_of_length_le (Nat.le_refl _)] at hl
    cases hl
    exact k σ' H' (R1.unhold Ri)
/-! ### while -/
def whileF (ft : TF) (gb : SF) : Nat → DEnv → Option Out
  | 0, _ => none
  | n + 1, e => (ft e).bind fun p => if p.1 = true then (gb p.2).bind fun o => match o with
    | .nx e2 => whileF ft gb n e2
    | .ct e2 => whileF ft gb n e2
    | .bk e2 => some (.nx e2)
    | .rt d e2 => some (.rt d e2) else some (.nx p.2)
open Classical in
noncomputable def sWhile (ft : TF) (gb : SF) : SF := fun env => if h : ∃ o n, whileF ft gb n env = some o then some (choose h) else none
theorem whileF_mono {ft : TF} {gb : SF} : ∀ (n : Nat) (e : DEnv) (o : Out), whileF ft gb n e = some o → whileF ft gb (n + 1) e = some o
  | 0, e, o, h => by cases h
  | n + 1, e, o, h => by
    unfold whileF at h
    obtain ⟨⟨b, e1⟩, h1, h⟩ := Option.bind_eq_some_iff.mp h
    unfold whileF
    rw [h1]
    simp only [Option.bind_some]
    simp only at h
    cases b with
    | false => simpa using h
    | true =>
      simp only [if_true] at h ⊢
      obtain ⟨o2, h2, h⟩ := Option.bind_eq_some_iff.mp h
      rw [h2]
      simp only [Option.bind_some]
      cases o2 with
      | nx e3 => exact whileF_mono n e3 o h
      | ct e3 => exact whileF_mono n e3 o h
      | bk e3 => exact h
      | rt d e3 => exact h
theorem whileF_le {ft : TF} {gb : SF} {n m : Nat} {e : DEnv} {o : Out} (hm : n ≤ m) (h : whileF ft gb n e = some o) : whileF ft gb m e = some o := by
  induction hm with
  | refl => exact h
  | step _ ih => exact whileF_mono _ _ _ ih
theorem sWhile_eq {ft : TF} {gb : SF} {n : Nat} {e : DEnv} {o : Out} (h : whileF ft gb n e = some o) : sWhile ft gb e = some o := by
  have hx : ∃ o n, whileF ft gb n e = some o := ⟨o, n, h⟩
  unfold sWhile
  rw [dif_pos hx]
  obtain ⟨m, hm⟩ := Classical.choose_spec hx
  have h1 := whileF_le (Nat.le_max_left n m) h
  have h2 := whileF_le (Nat.le_max_right n m) hm
  rw [h1] at h2
  exact h2.symm
theorem rs_while {tc : TT} {ft : TF} {tb : TS} {gb : SF} (hc : RT tc ft) (hb : RS tb gb) : RS (tWhile tc tb) (sWhile ft gb) := fun C env σ H D o h R k => by
  unfold sWhile at h
  split at h
  · rename_i hx
    obtain ⟨n, hn⟩ := Classical.choose_spec hx
    have e := Option.some.inj h
    rw [e] at hn
    clear e h hx
    refine ⟨fun m σ' H' => ∃ ei, whileF ft gb m ei = some o ∧ Rel C ei σ' H', ⟨n, env, hn, R⟩, fun m σ' H' ⟨ei, hm, Ri⟩ => ?_⟩
    cases m with
    | zero => cases hm
    | succ m =>
      unfold whileF at hm
      obtain ⟨⟨b, e1⟩, h1, hm⟩ := Option.bind_eq_some_iff.mp hm
      refine hc C ei σ' H' _ b e1 h1 Ri fun H1 R1 s1 g1 => ?_
      cases b with
      | false =>
        simp only [Bool.false_eq_true, if_false] at hm
        cases hm
        exact k σ' H1 R1
      | true =>
        simp only [if_true] at hm
        obtain ⟨o2, h2, hm⟩ := Option.bind_eq_some_iff.mp hm
        refine ⟨fun σ2 H2 => ∃ e2, whileF ft gb m e2 = some o ∧ Rel C e2 σ2 H2, fun σ2 H2 ⟨e2, q1, q2⟩ => ⟨m, Nat.lt_succ_self m, e2, q1, q2⟩, ?_⟩
        refine hb C e1 σ' H1 _ o2 h2 R1 ?_
        cases o2 with
        | nx e3 => exact fun σ4 H4 R4 => ⟨e3, hm, R4⟩
        | ct e3 => exact fun σ4 H4 R4 => ⟨e3, hm, R4⟩
        | bk e3 =>
          cases hm
          exact fun σ4 H4 R4 => k σ4 H4 R4
        | rt d e3 =>
          cases hm
          exact fun σ4 H4 v R4 dv => k σ4 H4 v R4 dv
  · cases h
end DL

set_option Elab.async false
set_option linter.all false
set_option maxRecDepth 100000
set_option maxHeartbeats 4000000
namespace DL
open PySem L2 PyProof.Rows

/-! ### new lists that may become a slot's own -/
abbrev LF := DEnv → Option (List Dv × DEnv)
def RL (t : TE) (f : LF) : Prop := ∀ (C : DC) (env : DEnv) (σ : L2.St) (H : Hp) (Q : VK) (xs : List Dv) (env' : DEnv), f env = some (xs, env') → Rel C env σ H →
  (∀ p vs H', (∀ d v, Dat (MM C env σ) H d v → Dat (MM (C.plus p) env' σ) H' d v) → C.H0 p = none → ¬ C.M0 p → Rel (C.plus p) env' σ H' → Sh env env' → Grow env σ H H' → H' p = some (.lst vs) → Dats (MM (C.plus p) env' σ) H' xs vs → Q (.ref p) H') → t σ H Q
def fOfL (f : LF) : EF := fun env => (f env).map fun p => (.d (.lst p.1), p.2)
section
variable {C : DC} {env env' : DEnv} {σ σ' : L2.St} {H H' : Hp} {p : Addr} {o : HO}
theorem Rel.notW (R : Rel (C.plus p) env σ H) (h : ¬ C.M0 p) (hio : ∀ i a, C.io = some (i, a) → C.M0 a) : ¬ W env σ p :=
  R.plusW fun i a e z => h (z ▸ hio i a e)
theorem dat_plus {d : Dv} {v : V} (s : Sh env env') (g : Grow env σ H H') (np : H' p = none) (h : Dat (MM C env σ) H d v) : Dat (MM (C.plus p) env' σ) H' d v :=
  (g.dat s h).to (fun _ _ _ q => q) fun a z => by
    rcases z with (z | z) | z
    · exact .inl (.inl z)
    · exact .inr (z ▸ np)
    · exact .inl (.inr z)
theorem re_ofL {t : TE} {f : LF} (h : RL t f) : RE t (fOfL f) := fun C env σ H Q rv env' e R k => by
  unfold fOfL at e
  obtain ⟨⟨xs, e1⟩, h1, e⟩ := Option.map_eq_some_iff.mp e
  cases e
  refine h C env σ H Q xs e1 h1 R fun p vs H' _ h0 hm Rp s g hp hs => ?_
  have R' := Rp.unplus R.hio
  refine k _ H' R' s g ?_
  show Dat (MM C e1 σ) H' (.lst xs) _
  unfold Dat
  exact ⟨p, vs, rfl, fun z => z.elim hm (Rp.notW hm R.hio), hp, Dats.to (fun _ _ _ q => q) (fun a z => .inl (mm_plus z)) _ _ hs⟩
theorem rl_lst {ta : TA} {fa : AF} (ha : RA ta fa) : RL (tLst ta) (fun env => (fa env).bind fun p => (frzs p.2 p.1).bind fun q => if q.1.length ≤ szL then some (q.1, q.2) else none) := fun C env σ H Q xs env' h R k => by
  obtain ⟨⟨rs, e1⟩, h1, h⟩ := Option.bind_eq_some_iff.mp h
  obtain ⟨⟨ds, e2⟩, h2, h⟩ := Option.bind_eq_some_iff.mp h
  split at h
  · rename_i hz
    cases h
    refine ha C env σ H _ rs e1 h1 R fun vs H1 R1 s1 g1 r1 => ?_
    obtain ⟨R2, s2, d2⟩ := frzs_ok R1 r1 h2
    refine ⟨by rw [d2.length]; exact szL_le hz, fun p np => ?_⟩
    refine k p vs _ (fun d v q => (dat_plus (s1.trans s2) (g1.trans s1 (Grow.refl _ _ _)) np q).to (fun a u _ q => by rw [upd_ne (ne_of_none q np)]; exact q) fun _ z => .inl z) (R2.h0 np) (fun z => R2.mem p z np) (R2.plus np _) (s1.trans s2) ((g1.trans s1 (Grow.refl _ _ _)).trans (s1.trans s2) (Grow.new np)) upd_same ?_
    exact Dats.to (fun a u _ q => by rw [upd_ne (ne_of_none q np)]; exact q) (fun a z => by
      rcases z with (z | z) | z
      · exact .inl (.inl z)
      · exact .inr (z ▸ np)
      · exact .inl (.inr z)) _ _ d2
  · cases h
/-- the list at the plus address is written -/
theorem Rel.putD (R : Rel (C.plus p) env σ H) (hw : ¬ W env σ p) (hcm : ¬ C.M0 p) (h0 : C.H0 p = none) (hp : ∃ u, H p = some u) : Rel (C.plus p) env σ (upd H p o) where
  len := R.len
  dat := fun i d e => by
    obtain ⟨v, h1, h2⟩ := R.dat i d e
    exact ⟨v, h1, h2.to (fun a u n q => by rw [upd_ne (fun z => n (.inl (.inr z)))]; exact q) fun _ z => .inl z⟩
  own := fun i b xs e => by
    obtain ⟨a, vs, h1, h2, h3⟩ := R.own i b xs e
    have na : a ≠ p := fun z => hw ⟨i, b, xs, e, z ▸ h1⟩
    exact ⟨a, vs, h1, by rw [upd_ne na]; exact h2, Dats.to (fun a u n q => by rw [upd_ne (fun z => n (.inl (.inr z)))]; exact q) (fun _ z => .inl z) _ _ h3⟩
  fit := R.fit
  inj := R.inj
  io := R.io
  iob := R.iob
  no := R.no
  keep := fun a u n q => by
    have na : a ≠ p := fun z => by
      subst z
      have q' : C.H0 a = some u := q
      rw [h0] at q'
      cases q'
    rw [upd_ne na]
    exact R.keep a u n q
  mem := fun a m => by
    by_cases e : a = p
    · rw [e, upd_same]
      intro z
      cases z
    · rw [upd_ne e]
      exact R.mem a m
  prv := R.prvTo rfl (fun _ _ z => ⟨z, rfl⟩) (fun a u n q => by
    have na : a ≠ p := fun z => by
      subst z
      by_cases hp : C.pv a
      · exact hcm (C.pvm a hp).1
      · exact n ⟨.inl (.inr rfl), hp⟩
    rw [upd_ne na]
    exact q) (fun _ z => .inl z)
open Classical in
theorem Rel.heldW (R0 : Rel C env σ H) (R : Rel (C.hold env σ H) env' σ' H') : ∀ a o, ¬ W env σ a → ¬ C.pv a → H a = some o → H' a = some o := fun a o n np q => by
  refine R.keep a o (fun i e => ?_) ?_
  · obtain ⟨_, xs, h1, h2⟩ := R0.iob i a e
    exact n ⟨i, .lst true, xs, h1, h2⟩
  · show (if W env σ a ∨ C.pv a then none else H a) = some o
    rw [if_neg (fun z => z.elim n np), q]
theorem Rel.unholdP (R0 : Rel C env σ H) (hn : H p = none) (R : Rel ((C.hold env σ H).plus p) env' σ' H') : Rel (C.plus p) env' σ' H' := by
  have R1 : Rel (C.hold env σ H) env' σ' H' := R.unplus R0.hold.hio
  have R2 := R0.unhold R1
  exact ⟨R.len, R.dat, R.own, R.fit, R.inj, R.io, R.iob, fun i b xs a nb e1 e2 => ⟨(R2.no i b xs a nb e1 e2).1, (R.no i b xs a nb e1 e2).2⟩, R2.keep, R.mem, R.prvTo rfl (fun _ _ z => ⟨z, rfl⟩) (fun _ _ _ q => q) (fun _ z => .inl z)⟩
end
def noOwnB (ts : List Nat) (env : DEnv) : Bool := ts.all fun i => match env[i]? with
  | some (.own _ _) => false
  | some (.ownD _ _) => false
  | some (.prv _) => false
  | _ => true
theorem noOwnB_prv {ts : List Nat} {env : DEnv} (h : noOwnB ts env = true) : ∀ i ∈ ts, ∀ d, env[i]? ≠ some (.prv d) := fun i hi d e => by
  have q := List.all_eq_true.mp h i hi
  simp only [e] at q
  cases q
theorem noOwnB_ok {ts : List Nat} {env : DEnv} (h : noOwnB ts env = true) : NoOwn ts env := fun i hi b xs e => by
  have q := List.all_eq_true.mp h i hi
  cases b <;> simp only [e, OK.slot] at q <;> cases q
def compF (gf : GF) (ft : TF) (fe : EF) (ts : List Nat) : List Dv → DEnv → List Dv → Option (List Dv × DEnv)
  | [], e, acc => some (acc, e)
  | d :: r, e, acc => (gf d e).bind fun e1 => (ft e1).bind fun p => if p.1 = true then (fe p.2).bind fun q => (frz q.2 q.1).bind fun z => if acc.length < szL then compF gf ft fe ts r (wipeE z.2 ts) (acc ++ [z.1]) else none
    else compF gf ft fe ts r (wipeE p.2 ts) acc
def fLc (fi : IF) (gf : GF) (ft : TF) (fe : EF) (ts : List Nat) : LF := fun env => (fi env).bind fun p => if noOwnB ts p.2 = true then (compF gf ft fe ts p.1 (wipeE p.2 ts) []).map fun q => (q.1, backE p.2 q.2 ts) else none
theorem szL_lt {n : Nat} (h : n < szL) : n < sizeLine := Nat.lt_of_lt_of_le h (szL_le (Nat.le_refl _))
theorem wipe_wipe {σ : L2.St} {ts : List Nat} : wipe (wipe σ ts) ts = wipe σ ts := by
  apply List.ext_getElem?
  intro j
  rw [wipe_get, wipe_get, wipe_length]
  split <;> rfl
theorem rl_lc {wi : TI} {fi : IF} {g : TG} {us ts : List Nat} {gf : GF} {tt : TT} {ft : TF} {te : TE} {fe : EF} (hi : RI wi fi) (hg : RG g us gf) (hu : ∀ i ∈ us, i ∈ ts) (ht : RT tt ft) (he : RE te fe) : RL (tLc wi g tt te ts) (fLc fi gf ft fe ts) := fun C env σ H Q xs env' h R k => by
  unfold fLc at h
  obtain ⟨⟨ds, e1⟩, h1, h⟩ := Option.bind_eq_some_iff.mp h
  split at h
  case isFalse => cases h
  rename_i hno
  have hnp := noOwnB_prv hno
  have hno : NoOwn ts e1 := noOwnB_ok hno
  obtain ⟨⟨ys, en⟩, h2, h⟩ := Option.map_eq_some_iff.mp h
  cases h
  refine hi C env σ H _ ds e1 h1 R fun J H1 R1 s1 g1 it => ?_
  intro D nD
  obtain ⟨Rw, ww⟩ := R1.wiped hno
  have Rh := Rw.hold
  have c0 : C.H0 D = none := R1.h0 nD
  have cm : ¬ C.M0 D := fun z => R1.mem D z nD
  have Rp := Rh.plus nD (.lst [])
  have h00 : (C.hold (wipeE e1 ts) (wipe σ ts) H1).H0 D = none := Rh.h0 nD
  have hio : ∀ i a, (C.hold (wipeE e1 ts) (wipe σ ts) H1).io = some (i, a) → (C.hold (wipeE e1 ts) (wipe σ ts) H1).M0 a := Rh.hio
  refine lc_it it.walk (fun i H' => ∃ ei acc vs, compF gf ft fe ts (ds.drop i) ei acc = some (ys, en) ∧ Rel ((C.hold (wipeE e1 ts) (wipe σ ts) H1).plus D) ei (wipe σ ts) H' ∧ Sh (wipeE e1 ts) ei ∧ H' D = some (.lst vs) ∧
      Dats (MM ((C.hold (wipeE e1 ts) (wipe σ ts) H1).plus D) ei (wipe σ ts)) H' acc vs ∧ ∀ a o, C.pv a → H1 a = some o → H' a = some o) ⟨_, [], [], h2, Rp, Sh.refl _, upd_same, .nil, fun a o _ q => by rw [upd_ne (ne_of_none q nD)]; exact q⟩ (fun i H' _ ⟨ei, acc, vs, _, Ri, _⟩ => ?_)
    (fun i x H2 H3 hii ⟨ei, acc, vs, hc, Ri, si, hD, hacc, hpv⟩ ⟨y1, y2⟩ => ?_) fun H' ⟨ei, acc, vs, hc, Ri, si, hD, hacc, hpv⟩ => ?_
  · intro a o n q
    refine Rw.heldW (Ri.unplus hio) a o (fun z => n (.inr ((ww a).mp z))) (fun z => n (.inl (C.pvm a z).1)) q
  · have hd : ds.drop i = ds[i] :: ds.drop (i + 1) := List.drop_eq_getElem_cons hii
    rw [hd] at hc
    unfold compF at hc
    obtain ⟨e2, q2, hc⟩ := Option.bind_eq_some_iff.mp hc
    obtain ⟨⟨b, e3⟩, q3, hc⟩ := Option.bind_eq_some_iff.mp hc
    have nw : ¬ W ei (wipe σ ts) D := Ri.notW cm hio
    have noi : NoOwn ts ei := fun j hj b zs e => by
      obtain ⟨_, z⟩ := si.2 j b zs e
      rw [wipeE_get, if_pos hj] at z
      split at z
      · exact (OK.nonon (Option.some.inj z).symm).elim
      · cases z
    have dx : Dat (MM ((C.hold (wipeE e1 ts) (wipe σ ts) H1).plus D) ei (wipe σ ts)) H3 ds[i] x := by
      refine y2 _ (fun a z => ?_) (fun a z => Ri.memM a z) _ (List.getElem?_eq_getElem hii)
      rcases z with (z | z) | z
      · exact .inl (.inl z)
      · exact .inr (z ▸ nD)
      · rcases Rw.heldM (Ri.unplus hio) a (.inr z) with (w | w) | w
        · exact .inl (.inl w)
        · exact .inl (.inr ((ww a).mp w))
        · exact .inr w
    refine hg _ ei (wipe σ ts) H3 ds[i] x _ e2 q2 (Ri.grow y1) dx fun σ2 R2 w2 o2 n2 k2 => ⟨by rw [w2 ts hu, wipe_wipe], ?_⟩
    have m2 : ∀ a, MM ((C.hold (wipeE e1 ts) (wipe σ ts) H1).plus D) e2 σ2 a → MM ((C.hold (wipeE e1 ts) (wipe σ ts) H1).plus D) ei (wipe σ ts) a := fun a z => z.imp id fun ⟨j, b, zs, z1, z2⟩ => ⟨j, b, zs, (o2 j b zs z1).1, by rw [← (o2 j b zs z1).2]; exact z2⟩
    have acc2 : Dats (MM ((C.hold (wipeE e1 ts) (wipe σ ts) H1).plus D) e2 σ2) H3 acc vs := Dats.to (fun a o _ q => y1 a o q) (fun a z => .inl (m2 a z)) _ _ hacc
    have no2 : NoOwn ts e2 := fun j hj b zs e => by
      obtain ⟨z, _⟩ := o2 j b zs e
      exact noi j hj b zs z
    have sh2 : Sh ei e2 := ⟨by rw [← R2.len, ← Ri.len]; have := congrArg List.length (w2 ts hu); rw [wipe_length, wipe_length] at this; exact this, fun j b zs e => ⟨zs, (o2 j b zs e).1⟩⟩
    refine ht _ e2 σ2 H3 _ b e3 q3 R2 fun H4 R4 s4 g4 => ?_
    have nw2 : ¬ W e2 σ2 D := R2.notW cm hio
    have hD4 : H4 D = some (.lst vs) := g4 D _ nw2 (y1 D _ hD)
    have no3 : NoOwn ts e3 := fun j hj b zs e => by
      obtain ⟨_, z⟩ := s4.2 j b zs e
      exact no2 j hj b _ z
    have ew : wipe σ2 ts = wipe σ ts := by rw [w2 ts hu, wipe_wipe]
    have shw : ∀ {e : DEnv}, NoOwn ts e → Sh ei e → Sh (wipeE e1 ts) (wipeE e ts) := fun {e} ne s => by
      refine ⟨by rw [wipeE_length]; exact s.1.trans si.1, fun j b zs q => ?_⟩
      rw [wipeE_get] at q
      split at q
      · split at q
        · exact (OK.nonon (Option.some.inj q).symm).elim
        · cases q
      · obtain ⟨_, z⟩ := s.2 j b zs q
        exact si.2 j b _ z
    cases b with
    | false =>
      simp only [Bool.false_eq_true, if_false] at hc ⊢
      obtain ⟨R5, w5⟩ := R4.wiped no3
      rw [ew] at R5
      refine ⟨_, acc, vs, hc, R5, shw no3 (sh2.trans s4), hD4, ?_, fun a o p q => g4 a o (R2.pvW p) (y1 a o (hpv a o p q))⟩
      have q := g4.dats s4 acc2
      rw [← ew]
      exact Dats.to (fun _ _ _ q => q) (fun a z => .inl (z.imp id (w5 a).mp)) _ _ q
    | true =>
      simp only [if_true] at hc ⊢
      obtain ⟨⟨rv, e4⟩, q4, hc⟩ := Option.bind_eq_some_iff.mp hc
      obtain ⟨⟨dd, e5⟩, q5, hc⟩ := Option.bind_eq_some_iff.mp hc
      split at hc
      case isFalse => cases hc
      rename_i hz
      refine he _ e3 σ2 H4 _ rv e4 q4 R4 fun y H5 R5 s5 g5 r5 => ?_
      obtain ⟨R6, s6, d6⟩ := frz_ok R5 r5 q5
      have nw3 : ¬ W e3 σ2 D := R4.notW cm hio
      have hD5 : H5 D = some (.lst vs) := g5 D _ nw3 hD4
      have no5 : NoOwn ts e5 := fun j hj b zs e => by
        obtain ⟨_, z⟩ := (s5.trans s6).2 j b zs e
        exact no3 j hj b _ z
      obtain ⟨R7, w7⟩ := R6.wiped no5
      rw [ew] at R7
      have acc5 : Dats (MM ((C.hold (wipeE e1 ts) (wipe σ ts) H1).plus D) e5 σ2) H5 acc vs := (Grow.refl _ _ _).dats s6 (g5.dats s5 (g4.dats s4 acc2))
      have acc6 : Dats (MM ((C.hold (wipeE e1 ts) (wipe σ ts) H1).plus D) e5 σ2) H5 (acc ++ [dd]) (vs ++ [y]) := acc5.app (.one d6)
      have nw7 : ¬ W (wipeE e5 ts) (wipe σ ts) D := R7.notW cm hio
      refine ⟨vs, hD5, by rw [acc5.length]; exact szL_lt hz, _, acc ++ [dd], vs ++ [y], hc, R7.putD nw7 cm h00 ⟨_, hD5⟩, shw no5 ((sh2.trans s4).trans (s5.trans s6)), upd_same, ?_, fun a o p q => by
        have ne : a ≠ D := fun z => cm (by rw [← z]; exact (C.pvm a p).1)
        rw [upd_ne ne]
        exact g5 a o (R4.pvW p) (g4 a o (R2.pvW p) (y1 a o (hpv a o p q)))⟩
      rw [ew] at w7
      exact Dats.to (fun a u n q => by rw [upd_ne (fun z => n (.inl (.inr z)))]; exact q) (fun a z => .inl (z.imp id (w7 a).mp)) _ _ acc6
  · rw [List.drop_of_length_le (Nat.le_refl _)] at hc
    unfold compF at hc
    cases hc
    have R2 := Rw.unholdP nD Ri
    have hlen : en.length = e1.length := by rw [si.1, wipeE_length]
    have hw : Rel C en (wipe σ ts) H' := R2.unplus R1.hio
    have own : ∀ (j : Nat) (b : OK) zs, (backE e1 en ts)[j]? = some (b.slot zs) → en[j]? = some (b.slot zs) ∧ (wipe σ ts)[j]? = σ[j]? ∧ ∃ zs', e1[j]? = some (b.slot zs') := fun j b zs q => by
      rw [backE_get hlen] at q
      by_cases hj : j ∈ ts
      · rw [if_pos hj] at q
        exact absurd q (hno j hj b zs)
      · rw [if_neg hj] at q
        obtain ⟨zs', z⟩ := si.2 j b zs q
        rw [wipeE_get, if_neg hj] at z
        exact ⟨q, by rw [wipe_get, if_neg hj], zs', z⟩
    have own' : ∀ (j : Nat) (b : OK) zs, en[j]? = some (b.slot zs) → (backE e1 en ts)[j]? = some (b.slot zs) ∧ (wipe σ ts)[j]? = σ[j]? := fun j b zs q => by
      have hj : j ∉ ts := fun hj => by
        obtain ⟨_, z⟩ := si.2 j b zs q
        rw [wipeE_get, if_pos hj] at z
        split at z
        · exact (OK.nonon (Option.some.inj z).symm).elim
        · cases z
      exact ⟨by rw [backE_get hlen, if_neg hj]; exact q, by rw [wipe_get, if_neg hj]⟩
    have wb : ∀ a, W (backE e1 en ts) σ a → W en (wipe σ ts) a := fun a ⟨j, b, zs, z1, z2⟩ => ⟨j, b, zs, (own j b zs z1).1, by rw [(own j b zs z1).2.1]; exact z2⟩
    have mb : ∀ a, MM (C.plus D) (backE e1 en ts) σ a → MM (C.plus D) en (wipe σ ts) a := fun a z => z.imp id (wb a)
    have sh : Sh e1 (backE e1 en ts) := ⟨by rw [backE_length, hlen], fun j b zs q => (own j b zs q).2.2⟩
    have heldd : ∀ a o, ¬ W e1 σ a → H1 a = some o → H' a = some o := fun a o n q => by
      by_cases np : C.pv a
      · exact hpv a o np q
      · exact Rw.heldW (Ri.unplus hio) a o (fun z => n ((ww a).mp z)) np q
    have RB : Rel (C.plus D) (backE e1 en ts) σ H' := by
      refine ⟨by rw [backE_length, hlen]; exact R1.len, fun j d q => ?_, fun j b zs q => ?_, fun j b zs q => R2.fit j b zs (own j b zs q).1, fun j k b c zs zs' a q1 q2 z1 z2 => ?_, fun j zs q => R2.io j zs (own j (.lst true) _ q).1, fun j a q => ?_, fun j b zs a nb q z => ?_, R2.keep, R2.mem, fun j d q => by
        rw [backE_get hlen] at q
        by_cases hj : j ∈ ts
        · rw [if_pos hj] at q
          exact (hnp j hj d q).elim
        · rw [if_neg hj] at q
          obtain ⟨v, z1, z2⟩ := R2.prv j d q
          rw [wipe_get, if_neg hj] at z1
          exact ⟨v, z1, PD.to (fun _ _ _ q => q) (fun a z => .inl ⟨mb a z.1, z.2⟩) (fun _ z => z) _ _ z2⟩⟩
      · rw [backE_get hlen] at q
        by_cases hj : j ∈ ts
        · rw [if_pos hj] at q
          obtain ⟨v, z1, z2⟩ := R1.dat j d q
          refine ⟨v, z1, z2.to (fun a o n q => heldd a o (fun z => n (.inr z)) q) fun a z => ?_⟩
          rcases z with (z | z) | z
          · exact .inl (.inl z)
          · exact .inr (z ▸ nD)
          · exact .inl (.inr (sh.w z))
        · rw [if_neg hj] at q
          obtain ⟨v, z1, z2⟩ := R2.dat j d q
          rw [wipe_get, if_neg hj] at z1
          exact ⟨v, z1, z2.to (fun _ _ _ q => q) fun a z => .inl (mb a z)⟩
      · obtain ⟨z1, z2, _⟩ := own j b zs q
        obtain ⟨a, ws, z3, z4, z5⟩ := R2.own j b zs z1
        exact ⟨a, ws, by rw [← z2]; exact z3, z4, Dats.to (fun _ _ _ q => q) (fun a z => .inl (mb a z)) _ _ z5⟩
      · obtain ⟨y1, y2, _⟩ := own j _ _ q1
        obtain ⟨y3, y4, _⟩ := own k _ _ q2
        exact R2.inj j k b c zs zs' a y1 y3 (by rw [y2]; exact z1) (by rw [y4]; exact z2)
      · obtain ⟨z1, zs, z2, z3⟩ := R2.iob j a q
        obtain ⟨z4, z5⟩ := own' j (.lst true) _ z2
        exact ⟨z1, zs, z4, by rw [← z5]; exact z3⟩
      · obtain ⟨z1, z2, _⟩ := own j _ _ q
        exact R2.no j b zs a nb z1 (by rw [z2]; exact z)
    refine k D vs H' (fun d v q => (dat_plus s1 g1 nD q).to (fun a o n q => heldd a o (fun z => n (.inr z)) q) fun a z => .inl (z.imp id sh.w)) c0 cm RB (s1.trans sh) (g1.trans s1 (fun a o n q => heldd a o n q)) hD ?_
    exact Dats.to (fun _ _ _ q => q) (fun a z => .inl (mb a z)) _ _ hacc
end DL

set_option Elab.async false
set_option linter.all false
set_option maxRecDepth 100000
set_option maxHeartbeats 4000000
namespace DL
open PySem L2 PyProof.Rows

section
variable {C : DC} {env env' : DEnv} {σ σ' : L2.St} {H H' : Hp} {p a : Addr} {o : HO}
/-- a new thing becomes a slot's own -/
theorem Rel.ownSetG (R : Rel (C.plus p) env σ H) (hio : ∀ i a, C.io = some (i, a) → C.M0 a) (h0 : C.H0 p = none) (hm : ¬ C.M0 p) {i : Nat} {s : Slot} (e : env[i]? = some s) (ns : ∀ xs, s ≠ .own true xs) {kk : OK} (nk : kk ≠ .lst true) {xs : List Dv} (fit : kk.fit xs) {vs : List V} (hp : H p = some (kk.obj vs))
    (hs : Dats (MM (C.plus p) env σ) H xs vs) : Rel C (env.set i (kk.slot xs)) (σ.set i (some (.ref p))) H ∧ ∀ a, MM C (env.set i (kk.slot xs)) (σ.set i (some (.ref p))) a → MM (C.plus p) env σ a := by
  have hi : i < env.length := (List.getElem?_eq_some_iff.mp e).1
  have hsi : i < σ.length := by rw [R.len]; exact hi
  have nw := R.notW hm hio
  have own : ∀ (j : Nat) (b : OK) ys, (env.set i (kk.slot xs))[j]? = some (b.slot ys) → (j = i ∧ b = kk ∧ ys = xs) ∨ (j ≠ i ∧ env[j]? = some (b.slot ys) ∧ (σ.set i (some (V.ref p)))[j]? = σ[j]?) := fun j b ys q => by
    rw [set_get] at q
    by_cases h : i = j
    · rw [if_pos h, if_pos hi] at q
      have q := Option.some.inj q
      have e2 : b = kk ∧ ys = xs := by
        cases b <;> cases kk <;> simp only [OK.slot, Slot.own.injEq, Slot.ownD.injEq, reduceCtorEq] at q
        · exact ⟨by rw [q.1], q.2.symm⟩
        · exact ⟨by rw [q.1], q.2.symm⟩
      exact .inl ⟨h.symm, e2.1, e2.2⟩
    · rw [if_neg h] at q
      exact .inr ⟨fun z => h z.symm, q, List.getElem?_set_ne h⟩
  have si : (σ.set i (some (V.ref p)))[i]? = some (some (.ref p)) := by rw [set_get, if_pos rfl, if_pos hsi]
  have m : ∀ a, MM C (env.set i (kk.slot xs)) (σ.set i (some (.ref p))) a → MM (C.plus p) env σ a := fun a z => by
    rcases z with z | ⟨j, b, ys, h1, h2⟩
    · exact .inl (.inl z)
    · rcases own j b ys h1 with ⟨rfl, _, _⟩ | ⟨_, h3, h4⟩
      · rw [si] at h2
        cases h2
        exact .inl (.inr rfl)
      · exact .inr ⟨j, b, ys, h3, by rw [← h4]; exact h2⟩
  have keepio : ∀ i a, C.io = some (i, a) → a ≠ p := fun i a e z => hm (z ▸ hio i a e)
  refine ⟨⟨by rw [List.length_set, List.length_set]; exact R.len, fun j x q => ?_, fun j b ys q => ?_, fun j b ys q => ?_, fun j k b c ys zs a q1 q2 h1 h2 => ?_, fun j ys q => ?_, fun j a q => ?_, fun j b ys a nb q h1 => ?_, R.keep, fun a m => R.mem a (.inl m), R.prvTo rfl (fun j x q => by
    rw [set_get] at q
    by_cases h : i = j
    · rw [if_pos h, if_pos hi] at q
      exact (OK.noprv (Option.some.inj q)).elim
    · rw [if_neg h] at q
      exact ⟨q, List.getElem?_set_ne h⟩) (fun _ _ _ q => q) (fun a z => .inl (m a z))⟩, m⟩
  · rw [set_get] at q
    by_cases h : i = j
    · rw [if_pos h, if_pos hi] at q
      exact (OK.nodat (Option.some.inj q)).elim
    · rw [if_neg h] at q
      obtain ⟨u, h1, h2⟩ := R.dat j x q
      exact ⟨u, by rw [set_get, if_neg h]; exact h1, h2.to (fun _ _ _ q => q) fun a z => .inl (m a z)⟩
  · rcases own j b ys q with ⟨rfl, rfl, rfl⟩ | ⟨_, h3, h4⟩
    · exact ⟨p, vs, si, hp, Dats.to (fun _ _ _ q => q) (fun a z => .inl (m a z)) _ _ hs⟩
    · obtain ⟨a, ws, h5, h6, h7⟩ := R.own j b ys h3
      exact ⟨a, ws, by rw [h4]; exact h5, h6, Dats.to (fun _ _ _ q => q) (fun a z => .inl (m a z)) _ _ h7⟩
  · rcases own j b ys q with ⟨rfl, rfl, rfl⟩ | ⟨_, h3, h4⟩
    · exact fit
    · exact R.fit j b ys h3
  · rcases own j b ys q1 with ⟨rfl, _, _⟩ | ⟨n1, h3, h4⟩
    · rw [si] at h1
      cases h1
      rcases own k c zs q2 with ⟨rfl, _, _⟩ | ⟨n2, h5, h6⟩
      · rfl
      · rw [h6] at h2
        exact absurd ⟨k, c, zs, h5, h2⟩ nw
    · rcases own k c zs q2 with ⟨rfl, _, _⟩ | ⟨n2, h5, h6⟩
      · rw [si] at h2
        cases h2
        rw [h4] at h1
        exact absurd ⟨j, b, ys, h3, h1⟩ nw
      · exact R.inj j k b c ys zs a h3 h5 (by rw [← h4]; exact h1) (by rw [← h6]; exact h2)
  · rcases own j (.lst true) ys q with ⟨_, z, _⟩ | ⟨_, h3, _⟩
    · exact (nk z.symm).elim
    · exact R.io j ys h3
  · obtain ⟨_, ys, h2, h3⟩ := R.iob j a q
    have n : i ≠ j := fun z => by
      subst z
      rw [e] at h2
      exact ns ys (Option.some.inj h2)
    exact ⟨hio j a q, ys, by rw [set_get, if_neg n]; exact h2, by rw [set_get, if_neg n]; exact h3⟩
  · rcases own j b ys q with ⟨rfl, _, _⟩ | ⟨_, h3, h4⟩
    · rw [si] at h1
      cases h1
      exact ⟨h0, hm⟩
    · rw [h4] at h1
      obtain ⟨h5, h6⟩ := R.no j b ys a nb h3 h1
      exact ⟨h5, fun z => h6 (.inl z)⟩
/-- a new list becomes a slot's own -/
theorem Rel.ownSet (R : Rel (C.plus p) env σ H) (hio : ∀ i a, C.io = some (i, a) → C.M0 a) (h0 : C.H0 p = none) (hm : ¬ C.M0 p) {i : Nat} {s : Slot} (e : env[i]? = some s) (ns : ∀ xs, s ≠ .own true xs) {xs : List Dv} {vs : List V} (hp : H p = some (.lst vs))
    (hs : Dats (MM (C.plus p) env σ) H xs vs) : Rel C (env.set i (.own false xs)) (σ.set i (some (.ref p))) H ∧ ∀ a, MM C (env.set i (.own false xs)) (σ.set i (some (.ref p))) a → MM (C.plus p) env σ a :=
  R.ownSetG hio h0 hm e ns (kk := .lst false) (by intro z; cases z) trivial hp hs
def canSet (env : DEnv) (i : Nat) : Bool := match env[i]? with
  | none => false
  | some (.own true _) => false
  | _ => true
theorem canSet_ok {i : Nat} (h : canSet env i = true) : ∃ s, env[i]? = some s ∧ ∀ xs, s ≠ .own true xs := by
  unfold canSet at h
  split at h
  · cases h
  · cases h
  · rename_i n1 n2
    cases e : env[i]? with
    | none => exact absurd e n1
    | some s => exact ⟨s, rfl, fun xs z => n2 xs (by rw [e, z])⟩
def sOwn (i : Nat) (f : LF) : SF := fun env => (f env).bind fun p => if canSet p.2 i = true then some (.nx (p.2.set i (.own false p.1))) else none
theorem rs_own {te : TE} {f : LF} {i : Nat} (he : RL te f) : RS (tAsg te (gName i)) (sOwn i f) := fun C env σ H D o h R k => by
  unfold sOwn at h
  obtain ⟨⟨xs, e1⟩, h1, h⟩ := Option.bind_eq_some_iff.mp h
  split at h
  · rename_i hc
    cases h
    obtain ⟨s, e, ns⟩ := canSet_ok hc
    refine he C env σ H _ xs e1 h1 R fun p vs H' _ h0 hm Rp s1 g1 hp hs => ?_
    exact k _ H' (Rp.ownSet R.hio h0 hm e ns hp hs).1
  · cases h
/-- a, b = e1, e2 -/
def sPar (i j : Nat) (fa fb : EF) : SF := fun env => (fa env).bind fun p => (fb p.2).bind fun q => (frz q.2 p.1).bind fun x => (frz x.2 q.1).bind fun y => (fName i x.1 y.2).bind fun e1 => (fName j y.1 e1).map Out.nx
theorem rs_par {i j : Nat} {ta tb : TE} {fa fb : EF} (ha : RE ta fa) (hb : RE tb fb) : RS (tPar i j (tCons ta (tCons tb tNil))) (sPar i j fa fb) := fun C env σ H D o h R k => by
  unfold sPar at h
  obtain ⟨⟨x, e1⟩, h1, h⟩ := Option.bind_eq_some_iff.mp h
  obtain ⟨⟨y, e2⟩, h2, h⟩ := Option.bind_eq_some_iff.mp h
  obtain ⟨⟨dx, e3⟩, h3, h⟩ := Option.bind_eq_some_iff.mp h
  obtain ⟨⟨dy, e4⟩, h4, h⟩ := Option.bind_eq_some_iff.mp h
  obtain ⟨e5, h5, h⟩ := Option.bind_eq_some_iff.mp h
  obtain ⟨e6, h6, h⟩ := Option.map_eq_some_iff.mp h
  cases h
  refine ha C env σ H _ x e1 h1 R fun v H1 R1 s1 g1 r1 => ?_
  refine hb C e1 σ H1 _ y e2 h2 R1 fun w H2 R2 s2 g2 r2 => ?_
  obtain ⟨R3, s3, d3⟩ := frz_ok R2 (r1.step s2 g2) h3
  obtain ⟨R4, s4, d4⟩ := frz_ok R3 (r2.step s3 (Grow.refl _ _ _)) h4
  have d3' := (Grow.refl _ _ H2).dat s4 d3
  refine ⟨v, w, rfl, ?_⟩
  refine rg_name C e4 σ H2 dx v (fun σ' H' => D.nx (σ'.set j (some w)) H') e5 h5 R4 d3' fun σ5 R5 _ o5 _ _ => ?_
  refine rg_name C e5 σ5 H2 dy w _ e6 h6 R5 (d4.to (fun _ _ _ q => q) fun a z => .inl (z.imp id fun ⟨j, b, xs, q1, q2⟩ => ⟨j, b, xs, (o5 j b xs q1).1, by rw [← (o5 j b xs q1).2]; exact q2⟩)) fun σ6 R6 _ _ _ _ => k σ6 H2 R6
/-- a, b = [..], e -/
def sParOD (i j : Nat) (fa : LF) (fb : EF) : SF := fun env => (fa env).bind fun p => (fb p.2).bind fun q => (frz q.2 q.1).bind fun y => if canSet y.2 i = true then (fName j y.1 (y.2.set i (.own false p.1))).map Out.nx else none
theorem rs_parOD {i j : Nat} {ta tb : TE} {fa : LF} {fb : EF} (ha : RL ta fa) (hb : RE tb fb) : RS (tPar i j (tCons ta (tCons tb tNil))) (sParOD i j fa fb) := fun C env σ H D o h R k => by
  unfold sParOD at h
  obtain ⟨⟨xs, e1⟩, h1, h⟩ := Option.bind_eq_some_iff.mp h
  obtain ⟨⟨y, e2⟩, h2, h⟩ := Option.bind_eq_some_iff.mp h
  obtain ⟨⟨dy, e3⟩, h3, h⟩ := Option.bind_eq_some_iff.mp h
  split at h
  case isFalse => cases h
  rename_i hc
  obtain ⟨e4, h4, h⟩ := Option.map_eq_some_iff.mp h
  cases h
  obtain ⟨s, es, ns⟩ := canSet_ok hc
  refine ha C env σ H _ xs e1 h1 R fun p vs H1 _ h0 hm Rp s1 g1 hp hs => ?_
  refine hb (C.plus p) e1 σ H1 _ y e2 h2 Rp fun w H2 R2 s2 g2 r2 => ?_
  obtain ⟨R3, s3, d3⟩ := frz_ok R2 r2 h3
  have hp2 : H2 p = some (.lst vs) := g2 p _ (Rp.notW hm R.hio) hp
  have hs2 := (Grow.refl _ _ H2).dats s3 (g2.dats s2 hs)
  obtain ⟨R4, m4⟩ := R3.ownSet R.hio h0 hm es ns hp2 hs2
  refine ⟨_, w, rfl, ?_⟩
  exact rg_name C _ _ H2 dy w _ e4 h4 R4 (d3.to (fun _ _ _ q => q) fun a z => .inl (m4 a z)) fun σ6 R6 _ _ _ _ => k σ6 H2 R6
/-- a, b = e, [..] -/
def sParDO (i j : Nat) (fa : EF) (fb : LF) : SF := fun env => (fa env).bind fun p => (frz p.2 p.1).bind fun x => (fb x.2).bind fun q => if canSet q.2 j = true then (fName i x.1 (q.2.set j (.own false q.1))).map Out.nx else none
theorem rs_parDO {i j : Nat} (hij : i ≠ j) {ta tb : TE} {fa : EF} {fb : LF} (ha : RE ta fa) (hb : RL tb fb) : RS (tPar i j (tCons ta (tCons tb tNil))) (sParDO i j fa fb) := fun C env σ H D o h R k => by
  unfold sParDO at h
  obtain ⟨⟨x, e1⟩, h1, h⟩ := Option.bind_eq_some_iff.mp h
  obtain ⟨⟨dx, e2⟩, h2, h⟩ := Option.bind_eq_some_iff.mp h
  obtain ⟨⟨ys, e3⟩, h3, h⟩ := Option.bind_eq_some_iff.mp h
  split at h
  case isFalse => cases h
  rename_i hc
  obtain ⟨e4, h4, h⟩ := Option.map_eq_some_iff.mp h
  cases h
  obtain ⟨s, es, ns⟩ := canSet_ok hc
  refine ha C env σ H _ x e1 h1 R fun v H1 R1 s1 g1 r1 => ?_
  obtain ⟨R2, s2, d2⟩ := frz_ok R1 r1 h2
  refine hb C e2 σ H1 _ ys e3 h3 R2 fun p vs H2 dp h0 hm Rp s3 g3 hp hs => ?_
  obtain ⟨R4, m4⟩ := Rp.ownSet R.hio h0 hm es ns hp hs
  refine ⟨v, _, rfl, ?_⟩
  show D.nx ((σ.set i (some v)).set j (some (.ref p))) H2
  rw [List.set_comm _ _ hij]
  exact rg_name C _ _ H2 dx v _ e4 h4 R4 ((dp dx v d2).to (fun _ _ _ q => q) fun a z => .inl (m4 a z)) fun σ6 R6 _ _ _ _ => k σ6 H2 R6
/-- a, b, c = e1, e2, e3 -/
def sPar3 (i j l : Nat) (fa fb fc : EF) : SF := fun env => (fa env).bind fun p => (frz p.2 p.1).bind fun x => (fb x.2).bind fun q => (frz q.2 q.1).bind fun y => (fc y.2).bind fun r => (frz r.2 r.1).bind fun z => (fName i x.1 z.2).bind fun e1 => (fName j y.1 e1).bind fun e2 => (fName l z.1 e2).map Out.nx
theorem rs_par3 {i j l : Nat} {ta tb tc : TE} {fa fb fc : EF} (ha : RE ta fa) (hb : RE tb fb) (hc : RE tc fc) : RS (tPar3 i j l (tCons ta (tCons tb (tCons tc tNil)))) (sPar3 i j l fa fb fc) := fun C env σ H D o h R k => by
  unfold sPar3 at h
  obtain ⟨⟨x, e1⟩, h1, h⟩ := Option.bind_eq_some_iff.mp h
  obtain ⟨⟨dx, e2⟩, h2, h⟩ := Option.bind_eq_some_iff.mp h
  obtain ⟨⟨y, e3⟩, h3, h⟩ := Option.bind_eq_some_iff.mp h
  obtain ⟨⟨dy, e4⟩, h4, h⟩ := Option.bind_eq_some_iff.mp h
  obtain ⟨⟨z, e5⟩, h5, h⟩ := Option.bind_eq_some_iff.mp h
  obtain ⟨⟨dz, e6⟩, h6, h⟩ := Option.bind_eq_some_iff.mp h
  obtain ⟨e7, h7, h⟩ := Option.bind_eq_some_iff.mp h
  obtain ⟨e8, h8, h⟩ := Option.bind_eq_some_iff.mp h
  obtain ⟨e9, h9, h⟩ := Option.map_eq_some_iff.mp h
  cases h
  refine ha C env σ H _ x e1 h1 R fun v H1 R1 s1 g1 r1 => ?_
  obtain ⟨R2, s2, d2⟩ := frz_ok R1 r1 h2
  refine hb C e2 σ H1 _ y e3 h3 R2 fun w H2 R3 s3 g3 r3 => ?_
  obtain ⟨R4, s4, d4⟩ := frz_ok R3 r3 h4
  refine hc C e4 σ H2 _ z e5 h5 R4 fun u H3 R5 s5 g5 r5 => ?_
  obtain ⟨R6, s6, d6⟩ := frz_ok R5 r5 h6
  have dx' : Dat (MM C e6 σ) H3 dx v := (Grow.refl _ _ H3).dat s6 (g5.dat s5 ((Grow.refl _ _ H2).dat s4 (g3.dat s3 d2)))
  have dy' : Dat (MM C e6 σ) H3 dy w := (Grow.refl _ _ H3).dat s6 (g5.dat s5 d4)
  refine ⟨v, w, u, rfl, ?_⟩
  refine rg_name C e6 σ H3 dx v (fun σ' H' => D.nx ((σ'.set j (some w)).set l (some u)) H') e7 h7 R6 dx' fun σ7 R7 _ o7 _ _ => ?_
  have m7 : ∀ a, MM C e7 σ7 a → MM C e6 σ a := fun a z => z.imp id fun ⟨j, b, xs, q1, q2⟩ => ⟨j, b, xs, (o7 j b xs q1).1, by rw [← (o7 j b xs q1).2]; exact q2⟩
  refine rg_name C e7 σ7 H3 dy w (fun σ' H' => D.nx (σ'.set l (some u)) H') e8 h8 R7 (dy'.to (fun _ _ _ q => q) fun a z => .inl (m7 a z)) fun σ8 R8 _ o8 _ _ => ?_
  have m8 : ∀ a, MM C e8 σ8 a → MM C e7 σ7 a := fun a z => z.imp id fun ⟨j, b, xs, q1, q2⟩ => ⟨j, b, xs, (o8 j b xs q1).1, by rw [← (o8 j b xs q1).2]; exact q2⟩
  exact rg_name C e8 σ8 H3 dz u _ e9 h9 R8 (d6.to (fun _ _ _ q => q) fun a z => .inl (m7 a (m8 a z))) fun σ9 R9 _ _ _ _ => k σ9 H3 R9
/-- a, b, c = [..], e, e' -/
def sPar3O (i j l : Nat) (fa : LF) (fb fc : EF) : SF := fun env => (fa env).bind fun p => (fb p.2).bind fun q => (frz q.2 q.1).bind fun y => (fc y.2).bind fun r => (frz r.2 r.1).bind fun z => if canSet z.2 i = true then (fName j y.1 (z.2.set i (.own false p.1))).bind fun e2 => (fName l z.1 e2).map Out.nx else none
theorem rs_par3O {i j l : Nat} {ta tb tc : TE} {fa : LF} {fb fc : EF} (ha : RL ta fa) (hb : RE tb fb) (hc : RE tc fc) : RS (tPar3 i j l (tCons ta (tCons tb (tCons tc tNil)))) (sPar3O i j l fa fb fc) := fun C env σ H D o h R k => by
  unfold sPar3O at h
  obtain ⟨⟨xs, e1⟩, h1, h⟩ := Option.bind_eq_some_iff.mp h
  obtain ⟨⟨y, e3⟩, h3, h⟩ := Option.bind_eq_some_iff.mp h
  obtain ⟨⟨dy, e4⟩, h4, h⟩ := Option.bind_eq_some_iff.mp h
  obtain ⟨⟨z, e5⟩, h5, h⟩ := Option.bind_eq_some_iff.mp h
  obtain ⟨⟨dz, e6⟩, h6, h⟩ := Option.bind_eq_some_iff.mp h
  split at h
  case isFalse => cases h
  rename_i hcs
  obtain ⟨e8, h8, h⟩ := Option.bind_eq_some_iff.mp h
  obtain ⟨e9, h9, h⟩ := Option.map_eq_some_iff.mp h
  cases h
  obtain ⟨s, es, ns⟩ := canSet_ok hcs
  refine ha C env σ H _ xs e1 h1 R fun p vs H1 dp h0 hm Rp s1 g1 hp hs => ?_
  refine hb (C.plus p) e1 σ H1 _ y e3 h3 Rp fun w H2 R3 s3 g3 r3 => ?_
  obtain ⟨R4, s4, d4⟩ := frz_ok R3 r3 h4
  refine hc (C.plus p) e4 σ H2 _ z e5 h5 R4 fun u H3 R5 s5 g5 r5 => ?_
  obtain ⟨R6, s6, d6⟩ := frz_ok R5 r5 h6
  have hp2 : H2 p = some (.lst vs) := g3 p _ (Rp.notW hm R.hio) hp
  have hp3 : H3 p = some (.lst vs) := g5 p _ (R4.notW hm R.hio) hp2
  have dy' : Dat (MM (C.plus p) e6 σ) H3 dy w := (Grow.refl _ _ H3).dat s6 (g5.dat s5 d4)
  have hs3 := (Grow.refl _ _ H3).dats s6 (g5.dats s5 ((Grow.refl _ _ H2).dats s4 (g3.dats s3 hs)))
  obtain ⟨R7, m7⟩ := R6.ownSet R.hio h0 hm es ns hp3 hs3
  refine ⟨_, w, u, rfl, ?_⟩
  refine rg_name C _ _ H3 dy w (fun σ' H' => D.nx (σ'.set l (some u)) H') e8 h8 R7 (dy'.to (fun _ _ _ q => q) fun a z => .inl (m7 a z)) fun σ8 R8 _ o8 _ _ => ?_
  have m8 : ∀ a, MM C e8 σ8 a → MM (C.plus p) e6 σ a := fun a z => m7 a (z.imp id fun ⟨j, b, xs, q1, q2⟩ => ⟨j, b, xs, (o8 j b xs q1).1, by rw [← (o8 j b xs q1).2]; exact q2⟩)
  exact rg_name C e8 σ8 H3 dz u _ e9 h9 R8 (d6.to (fun _ _ _ q => q) fun a z => .inl (m8 a z)) fun σ9 R9 _ _ _ _ => k σ9 H3 R9
/-! ### own lists changed -/
def ownL (env : DEnv) (i : Nat) : Option (Bool × List Dv) := match env[i]? with
  | some (.own b xs) => some (b, xs)
  | _ => none
theorem ownL_ok {i : Nat} {b : Bool} {xs : List Dv} (h : ownL env i = some (b, xs)) : env[i]? = some (.own b xs) := by
  unfold ownL at h
  split at h
  · rename_i e
    cases h
    exact e
  · cases h
def sApp (i : Nat) (fe : EF) : SF := fun env => (ownL env i).bind fun _ => (fe env).bind fun p => (frz p.2 p.1).bind fun q => (ownL q.2 i).bind fun w => if w.2.length < szL then some (.nx (q.2.set i (.own w.1 (w.2 ++ [q.1])))) else none
theorem rs_app {K : PySem.W.Frag} {i : Nat} {te : TE} {fe : EF} (he : RE te fe) : RS (tDrop (tBM K "list" rAppend (tVar i) (tCons te tNil))) (sApp i fe) := fun C env σ H D o h R k => by
  unfold sApp at h
  obtain ⟨⟨b0, ys⟩, h0, h⟩ := Option.bind_eq_some_iff.mp h
  obtain ⟨⟨x, e1⟩, h1, h⟩ := Option.bind_eq_some_iff.mp h
  obtain ⟨⟨d, e2⟩, h2, h⟩ := Option.bind_eq_some_iff.mp h
  obtain ⟨⟨b, xs⟩, h3, h⟩ := Option.bind_eq_some_iff.mp h
  split at h
  case isFalse => cases h
  rename_i hz
  cases h
  have w2 := ownL_ok h3
  obtain ⟨a, vs, q1, q2, q3⟩ := R.own i (.lst _) _ (ownL_ok h0)
  refine ⟨.ref a, q1, .inl ⟨rfl, vs, SqL.of q2⟩, ?_⟩
  refine he C env σ H _ x e1 h1 R fun v H1 R1 s1 g1 r1 => ?_
  obtain ⟨R2, s2, d2⟩ := frz_ok R1 r1 h2
  obtain ⟨a', ws, z1, z2, z3⟩ := R2.own i (.lst b) xs w2
  rw [q1] at z1
  cases z1
  refine ⟨a, ws, v, rfl, rfl, z2, by rw [z3.length]; exact szL_lt hz, ?_⟩
  exact k σ _ (R2.put w2 q1 (z3.app (.one d2))).1
/-- x.extend(list) -/
def sExt (i : Nat) (fe : EF) : SF := fun env => (ownL env i).bind fun _ => (fe env).bind fun p => (seqL p.2 p.1).bind fun ys => (ownL p.2 i).bind fun w => if w.2.length + ys.length ≤ szL then some (.nx (p.2.set i (.own w.1 (w.2 ++ ys)))) else none
theorem rs_ext {K : PySem.W.Frag} {i : Nat} {te : TE} {fe : EF} (he : RE te fe) : RS (tDrop (tBM K "list" rExtend (tVar i) (tCons te tNil))) (sExt i fe) := fun C env σ H D o h R k => by
  unfold sExt at h
  obtain ⟨⟨b0, zs⟩, h0, h⟩ := Option.bind_eq_some_iff.mp h
  obtain ⟨⟨x, e1⟩, h1, h⟩ := Option.bind_eq_some_iff.mp h
  obtain ⟨ys, h2, h⟩ := Option.bind_eq_some_iff.mp h
  obtain ⟨⟨b, xs⟩, h3, h⟩ := Option.bind_eq_some_iff.mp h
  split at h
  case isFalse => cases h
  rename_i hz
  cases h
  have w2 := ownL_ok h3
  obtain ⟨a, vs, q1, q2, q3⟩ := R.own i (.lst _) _ (ownL_ok h0)
  refine ⟨.ref a, q1, .inl ⟨rfl, vs, SqL.of q2⟩, ?_⟩
  refine he C env σ H _ x e1 h1 R fun v H1 R1 s1 g1 r1 => ?_
  obtain ⟨c, us, rfl, u1, u2⟩ := seqL_ok R1 r1 h2
  obtain ⟨a', ws, z1, z2, z3⟩ := R1.own i (.lst b) xs w2
  rw [q1] at z1
  cases z1
  refine ⟨a, c, ws, us, rfl, rfl, z2, u1, by rw [z3.length, u2.length]; exact szL_le hz, ?_⟩
  exact k σ _ (R1.put w2 q1 (z3.app u2)).1
/-- x.pop() -/
def fPop (i : Nat) : EF := fun env => (ownL env i).bind fun w => (w.2[w.2.length - 1]?).map fun d => (.d d, env.set i (.own w.1 w.2.dropLast))
theorem re_pop {K : PySem.W.Frag} {i : Nat} : RE (tBM0 K "list" rPop (tVar i)) (fPop i) := fun C env σ H Q rv env' h R k => by
  unfold fPop at h
  obtain ⟨⟨b, xs⟩, h0, h⟩ := Option.bind_eq_some_iff.mp h
  obtain ⟨d, h1, h⟩ := Option.map_eq_some_iff.mp h
  cases h
  have w2 := ownL_ok h0
  obtain ⟨a, vs, q1, q2, q3⟩ := R.own i (.lst _) _ w2
  obtain ⟨v, h2, h3⟩ := q3.get h1
  obtain ⟨R1, s1, g1⟩ := R.put w2 q1 q3.dropLast
  refine ⟨.ref a, q1, .inl ⟨rfl, vs, SqL.of q2⟩, a, vs, v, rfl, rfl, q2, by rw [q3.length]; exact h2, ?_⟩
  exact k v _ R1 s1 g1 (g1.dat s1 h3)
/-- x[i] = e -/
def sSetI (i : Nat) (fe fi : EF) : SF := fun env => (fe env).bind fun p => (frz p.2 p.1).bind fun q => (ownL q.2 i).bind fun _ => (fi q.2).bind fun r => (asI r.2 r.1).bind fun n => (ownL r.2 i).bind fun w => (ixN w.2.length n).map fun j => .nx (r.2.set i (.own w.1 (w.2.set j q.1)))
theorem rs_setI {i : Nat} {te ti : TE} {fe fi : EF} (he : RE te fe) (hi : RE ti fi) : RS (tAsg te (gSub (tVar i) ti rSetL)) (sSetI i fe fi) := fun C env σ H D o h R k => by
  unfold sSetI at h
  obtain ⟨⟨x, e1⟩, h1, h⟩ := Option.bind_eq_some_iff.mp h
  obtain ⟨⟨d, e2⟩, h2, h⟩ := Option.bind_eq_some_iff.mp h
  obtain ⟨⟨b0, zs⟩, h3, h⟩ := Option.bind_eq_some_iff.mp h
  obtain ⟨⟨y, e3⟩, h4, h⟩ := Option.bind_eq_some_iff.mp h
  obtain ⟨n, h5, h⟩ := Option.bind_eq_some_iff.mp h
  obtain ⟨⟨b, xs⟩, h6, h⟩ := Option.bind_eq_some_iff.mp h
  obtain ⟨j, h7, h⟩ := Option.map_eq_some_iff.mp h
  cases h
  refine he C env σ H _ x e1 h1 R fun v H1 R1 s1 g1 r1 => ?_
  obtain ⟨R2, s2, d2⟩ := frz_ok R1 r1 h2
  obtain ⟨a, vs, q1, q2, q3⟩ := R2.own i (.lst _) _ (ownL_ok h3)
  refine ⟨.ref a, q1, ?_⟩
  refine hi C e2 σ H1 _ y e3 h4 R2 fun w H2 R3 s3 g3 r3 => ?_
  have w2 := ownL_ok h6
  obtain ⟨a', ws, z1, z2, z3⟩ := R3.own i (.lst b) xs w2
  rw [q1] at z1
  cases z1
  refine ⟨a, ws, n, j, rfl, asI_ok R3 r3 h5, z2, by rw [z3.length]; exact h7, ?_⟩
  exact k σ _ (R3.put w2 q1 (z3.set j (g3.dat s3 d2))).1
theorem asI_v (R : Rel C env σ H) {i : Nat} {a : Int} (h : asI env (.v i) = some a) : σ[i]? = some (some (.int a)) := by
  cases e : env[i]? with
  | none => simp [asI, val, e] at h
  | some s =>
    cases s with
    | non => simp [asI, val, e] at h
    | own b xs => simp [asI, val, e] at h
    | ownD ks xs => simp [asI, val, e] at h
    | prv d => simp [asI, val, e] at h
    | dat d =>
      obtain ⟨v, q1, q2⟩ := R.dat i d e
      cases d <;> simp [asI, val, e] at h
      subst h
      unfold Dat at q2
      rw [q1, q2]
/-- x += e (ints) -/
def sAug (i : Nat) (fe : EF) (f : Int → Int → Int) : SF := fun env => (fe env).bind fun p => (asI env (.v i)).bind fun a => (asI p.2 p.1).bind fun b => (fName i (.int (f a b)) p.2).map Out.nx
theorem rs_aug {i : Nat} {te : TE} {fe : EF} {f : Int → Int → Int} (he : RE te fe) : RS (tAug i te (ipI f)) (sAug i fe f) := fun C env σ H D o h R k => by
  unfold sAug at h
  obtain ⟨⟨x, e1⟩, h1, h⟩ := Option.bind_eq_some_iff.mp h
  obtain ⟨a, h2, h⟩ := Option.bind_eq_some_iff.mp h
  obtain ⟨b, h3, h⟩ := Option.bind_eq_some_iff.mp h
  obtain ⟨e2, h4, h⟩ := Option.map_eq_some_iff.mp h
  cases h
  have hv := asI_v R h2
  refine ⟨.int a, hv, he C env σ H _ x e1 h1 R fun v H1 R1 s1 g1 r1 => ⟨a, b, rfl, asI_ok R1 r1 h3, ?_⟩⟩
  exact rg_name C e1 σ H1 (.int (f a b)) _ _ e2 h4 R1 (by unfold Dat; rfl) fun σ' R' _ _ _ _ => k σ' H1 R'

/-! ### defs -/
abbrev FnF := List Slot → Option (Dv × List Dv)
structure SlotsOk (M : Addr → Prop) (H : Hp) (io : Option (Nat × Addr)) (as : List Slot) (vs : List V) : Prop where
  len : vs.length = as.length
  dat : ∀ (i : Nat) d, as[i]? = some (.dat d) → ∃ v, vs[i]? = some v ∧ Dat M H d v
  own : ∀ (i : Nat) (b : OK) xs, as[i]? = some (b.slot xs) → b = .lst true ∧ ∃ a ws, io = some (i, a) ∧ vs[i]? = some (.ref a) ∧ H a = some (.lst ws) ∧ Dats M H xs ws
  io : ∀ i a, io = some (i, a) → M a ∧ vs[i]? = some (.ref a) ∧ ∃ xs, as[i]? = some (.own true xs)
  mem : ∀ a, M a → H a ≠ none
  nop : ∀ (i : Nat) d, as[i]? ≠ some (.prv d)
theorem nop_map {ds : List Dv} : ∀ (i : Nat) d, (ds.map Slot.dat)[i]? ≠ some (.prv d) := fun i d h => by
  rw [List.getElem?_map] at h
  obtain ⟨x, _, h2⟩ := Option.map_eq_some_iff.mp h
  cases h2
theorem nop_mid {as bs : List Dv} {xs : List Dv} {b : Bool} : ∀ (i : Nat) d, (as.map Slot.dat ++ Slot.own b xs :: bs.map Slot.dat)[i]? ≠ some (.prv d) := fun i d h => by
  have := List.mem_of_getElem? h
  simp at this
theorem nop_own {bs : List Dv} {xs : List Dv} {b : Bool} : ∀ (i : Nat) d, (Slot.own b xs :: bs.map Slot.dat)[i]? ≠ some (.prv d) := fun i d h => by
  have := List.mem_of_getElem? h
  simp at this
def spD (n : Nat) (F : FnF) : Sp := fun vs H Q _ => ∃ (M : Addr → Prop) (io : Option (Nat × Addr)) (as : List Slot) (r : Dv) (ys : List Dv), F as = some (r, ys) ∧ vs.length = n ∧ SlotsOk M H io as vs ∧
  ∀ v H', (∀ a o, (∀ i, io ≠ some (i, a)) → H a = some o → H' a = some o) → Dat M H' r v → (∀ i a, io = some (i, a) → ∃ ws, H' a = some (.lst ws) ∧ Dats M H' ys ws) → Q v H'
theorem spD_len {n : Nat} {F : FnF} {vs : List V} {H : Hp} {Q : VK} {E : XK} (h : spD n F vs H Q E) : vs.length = n := by
  obtain ⟨_, _, _, _, _, _, h, _⟩ := h
  exact h
def outIo : List Slot → DEnv → Option (List Dv)
  | [], _ => some []
  | .own _ _ :: _, .own _ xs :: _ => some xs
  | .own _ _ :: _, _ => none
  | _ :: as, _ :: e => outIo as e
  | _ :: _, [] => none
def runDef (n : Nat) (g : SF) : FnF := fun as => (g (as ++ List.replicate (n - as.length) .non)).bind fun o => match o with
  | .rt d e => (outIo as e).map fun ys => (d, ys)
  | .nx e => (outIo as e).map fun ys => (.non, ys)
  | _ => none
theorem outIo_none : ∀ {as : List Slot} {e : DEnv} {ys : List Dv}, (∀ (i : Nat) b xs, as[i]? ≠ some (.own b xs)) → True := fun _ => True.intro
theorem outIo_get : ∀ {as : List Slot} {e : DEnv} {ys xs : List Dv} {i : Nat} {b : Bool}, outIo as e = some ys → as[i]? = some (.own b xs) → (∀ (j : Nat) c zs, as[j]? = some (.own c zs) → j = i) → ∃ c, e[i]? = some (.own c ys)
  | [], _, _, _, i, _, _, h, _ => by simp at h
  | .own c zs :: as, e, ys, xs, i, b, h, hi, hu => by
    have z : 0 = i := hu 0 c zs rfl
    subst z
    match e, h with
    | .own c' ws :: e, h =>
      unfold outIo at h
      cases h
      exact ⟨c', rfl⟩
  | .dat d :: as, e, ys, xs, i, b, h, hi, hu => by
    cases i with
    | zero => cases hi
    | succ i =>
      match e, h with
      | s :: e, h =>
        unfold outIo at h
        exact outIo_get (as := as) (e := e) (i := i) h hi fun j c zs q => by
          have := hu (j + 1) c zs q
          omega
  | .non :: as, e, ys, xs, i, b, h, hi, hu => by
    cases i with
    | zero => cases hi
    | succ i =>
      match e, h with
      | s :: e, h =>
        unfold outIo at h
        exact outIo_get (as := as) (e := e) (i := i) h hi fun j c zs q => by
          have := hu (j + 1) c zs q
          omega
  | .ownD _ _ :: as, e, ys, xs, i, b, h, hi, hu => by
    cases i with
    | zero => cases hi
    | succ i =>
      match e, h with
      | s :: e, h =>
        unfold outIo at h
        exact outIo_get (as := as) (e := e) (i := i) h hi fun j c zs q => by
          have := hu (j + 1) c zs q
          omega
  | .prv _ :: as, e, ys, xs, i, b, h, hi, hu => by
    cases i with
    | zero => cases hi
    | succ i =>
      match e, h with
      | s :: e, h =>
        unfold outIo at h
        exact outIo_get (as := as) (e := e) (i := i) h hi fun j c zs q => by
          have := hu (j + 1) c zs q
          omega
theorem start_get {N : List Str} {vs : List V} (i : Nat) : (L2.start N vs)[i]? = if i < vs.length then (vs[i]?).map some else if i < N.length then some none else none := by
  unfold L2.start
  by_cases h : i < vs.length
  · rw [if_pos h, List.getElem?_append_left (by rw [List.length_map]; exact h), List.getElem?_map]
  · rw [if_neg h, List.getElem?_append_right (by rw [List.length_map]; omega), List.length_map]
    by_cases h2 : i < N.length
    · rw [if_pos h2, List.getElem?_replicate, if_pos (by omega)]
    · rw [if_neg h2, List.getElem?_replicate, if_neg (by omega)]
theorem pad_getK {as : List Slot} {m i : Nat} {b : OK} {xs : List Dv} (h : (as ++ List.replicate m Slot.non)[i]? = some (b.slot xs)) : as[i]? = some (b.slot xs) := by
  by_cases hi : i < as.length
  · rwa [List.getElem?_append_left hi] at h
  · rw [List.getElem?_append_right (by omega), List.getElem?_replicate] at h
    split at h
    · exact (OK.nonon (Option.some.inj h).symm).elim
    · cases h
theorem pad_get {as : List Slot} {m i : Nat} {s : Slot} (hs : s ≠ .non) (h : (as ++ List.replicate m Slot.non)[i]? = some s) : as[i]? = some s := by
  by_cases hi : i < as.length
  · rwa [List.getElem?_append_left hi] at h
  · rw [List.getElem?_append_right (by omega), List.getElem?_replicate] at h
    split at h
    · cases h
      exact absurd rfl hs
    · cases h
theorem body_ok {t : TS} {g : SF} {N ps : List Str} (hN : ps.length ≤ N.length) (hg : RS t g) {vs : List V} {H : Hp} {Q : VK} {E : XK} (h : spD ps.length (runDef N.length g) vs H Q E) :
    t { nx := fun _ H' => Q .non H', rt := Q } (L2.start N vs) H := by
  obtain ⟨M, io, as, r, ys, hF, hl, S, q⟩ := h
  unfold runDef at hF
  obtain ⟨o, ho, hF⟩ := Option.bind_eq_some_iff.mp hF
  have hlen : as.length = ps.length := by rw [← S.len, hl]
  have e0 : as.length + (N.length - as.length) = N.length := by omega
  have lt : ∀ {i : Nat} {s : Slot}, as[i]? = some s → i < vs.length := fun {i s} z => by rw [S.len]; exact (List.getElem?_eq_some_iff.mp z).1
  have stv : ∀ {i : Nat} {v : V}, vs[i]? = some v → (L2.start N vs)[i]? = some (some v) := fun {i v} z => by
    rw [start_get, if_pos (List.getElem?_eq_some_iff.mp z).1, z]
    rfl
  have R : Rel { M0 := M, H0 := H, io := io } (as ++ List.replicate (N.length - as.length) .non) (L2.start N vs) H := by
    have mm : ∀ a, MM { M0 := M, H0 := H, io := io } (as ++ List.replicate (N.length - as.length) .non) (L2.start N vs) a → M a := fun a z => by
      rcases z with z | ⟨i, b, xs, z1, z2⟩
      · exact z
      · obtain ⟨_, a', ws, y1, y2, _⟩ := S.own i b xs (pad_getK z1)
        rw [stv y2] at z2
        cases z2
        exact (S.io i a y1).1
    refine ⟨?_, fun i d z => ?_, fun i b xs z => ?_, fun i b xs z => ?_, fun i j b c xs zs a z1 z2 y1 y2 => ?_, fun i xs z => ?_, fun i a z => ?_, fun i b xs a nb z1 z2 => ?_, fun a o _ z => z, fun a z => S.mem a z, fun i d z => absurd (pad_get (by intro z; cases z) z) (S.nop i d)⟩
    · rw [List.length_append, List.length_replicate]
      unfold L2.start
      rw [List.length_append, List.length_map, List.length_replicate, S.len]
    · obtain ⟨v, y1, y2⟩ := S.dat i d (pad_get (by intro z; cases z) z)
      exact ⟨v, stv y1, y2.to (fun _ _ _ q => q) fun a z => .inl (mm a z)⟩
    · obtain ⟨eb, a, ws, y1, y2, y3, y4⟩ := S.own i b xs (pad_getK z)
      subst eb
      exact ⟨a, ws, stv y2, y3, Dats.to (fun _ _ _ q => q) (fun a z => .inl (mm a z)) _ _ y4⟩
    · obtain ⟨eb, _⟩ := S.own i b xs (pad_getK z)
      subst eb
      trivial
    · obtain ⟨_, a1, _, w1, _⟩ := S.own i b xs (pad_getK z1)
      obtain ⟨_, a2, _, w2, _⟩ := S.own j c zs (pad_getK z2)
      rw [w1] at w2
      exact (Prod.mk.inj (Option.some.inj w2)).1
    · obtain ⟨_, a, _, w1, _⟩ := S.own i (.lst true) xs (pad_getK z)
      exact ⟨a, w1⟩
    · obtain ⟨y1, y2, xs, y3⟩ := S.io i a z
      refine ⟨y1, xs, ?_, stv y2⟩
      rw [List.getElem?_append_left (List.getElem?_eq_some_iff.mp y3).1]
      exact y3
    · obtain ⟨z, _⟩ := S.own i b xs (pad_getK z1)
      exact (nb z).elim
  have fin : ∀ {d : Dv} {e : DEnv} {v : V} {σ' : L2.St} {H' : Hp}, (outIo as e).map (fun ys => (d, ys)) = some (r, ys) → Rel { M0 := M, H0 := H, io := io } e σ' H' → Dat (MM { M0 := M, H0 := H, io := io } e σ') H' d v → Q v H' := fun {d e v σ' H'} hm R' hd => by
    obtain ⟨zs, z1, z2⟩ := Option.map_eq_some_iff.mp hm
    cases z2
    refine q v H' (fun a o n z => R'.keep a o n z) (hd.to (fun _ _ _ q => q) fun a z => .inl (.inl z)) fun i a z => ?_
    obtain ⟨_, _, xs, y3⟩ := S.io i a z
    have un : ∀ (j : Nat) c zs, as[j]? = some (.own c zs) → j = i := fun j c zs w => by
      obtain ⟨_, a2, _, w2, _⟩ := S.own j (.lst c) zs w
      rw [z] at w2
      exact (Prod.mk.inj (Option.some.inj w2)).1.symm
    obtain ⟨c, w⟩ := outIo_get z1 y3 un
    obtain ⟨_, xs', y4, y5⟩ := R'.iob i a z
    obtain ⟨a2, ws, x1, x2, x3⟩ := R'.own i (.lst c) ys w
    rw [y5] at x1
    cases x1
    exact ⟨ws, x2, Dats.to (fun _ _ _ q => q) (fun a z => .inl (.inl z)) _ _ x3⟩
  refine hg _ _ _ H _ o ho R ?_
  cases o with
  | nx e => exact fun σ' H' R' => fin hF R' (by unfold Dat; rfl)
  | rt d e => exact fun σ' H' v R' hd => fin hF R' hd
  | bk e => cases hF
  | ct e => cases hF
/-! ### calls of defs -/
def callF (io : Option Nat) (F : FnF) (rs : List RV) (env : DEnv) : Option (RV × DEnv) := match io with
  | none => (frzs env rs).bind fun q => (F (q.1.map .dat)).map fun r => (.d r.1, q.2)
  | some j => match rs.drop j with
    | .v i :: post => (frzs env (rs.take j)).bind fun q1 => (frzs q1.2 post).bind fun q2 => (ownL q2.2 i).bind fun w => (F (q1.1.map .dat ++ .own true w.2 :: q2.1.map .dat)).map fun r => (.d r.1, q2.2.set i (.own w.1 r.2))
    | _ => none
def fCall (n : Nat) (io : Option Nat) (F : FnF) (fa : AF) : EF := fun env => (fa env).bind fun p => if p.1.length = n then callF io F p.1 p.2 else none
theorem map_dat_get {ds : List Dv} {i : Nat} {s : Slot} (h : (ds.map Slot.dat)[i]? = some s) : ∃ d, s = .dat d ∧ ds[i]? = some d := by
  rw [List.getElem?_map] at h
  obtain ⟨d, h1, h2⟩ := Option.map_eq_some_iff.mp h
  exact ⟨d, h2.symm, h1⟩
theorem frzs_len : ∀ {rs : List RV} {env env' : DEnv} {ds : List Dv}, frzs env rs = some (ds, env') → ds.length = rs.length
  | [], _, _, _, h => by
    cases h
    rfl
  | r :: rs, _, _, _, h => by
    simp only [frzs] at h
    obtain ⟨⟨d, e1⟩, h1, h⟩ := Option.bind_eq_some_iff.mp h
    obtain ⟨⟨ds', e2⟩, h2, h⟩ := Option.map_eq_some_iff.mp h
    cases h
    simp [frzs_len h2]
theorem RVs.len {C : DC} {env : DEnv} {σ : L2.St} {H : Hp} : ∀ {rs : List RV} {vs : List V}, RVs C env σ H rs vs → vs.length = rs.length
  | [], vs, h => by
    have h : vs = [] := h
    rw [h]
    rfl
  | r :: rs, vs, h => by
    obtain ⟨v, ws, rfl, _, h2⟩ := h
    simp [RVs.len h2]
theorem RVs.split {C : DC} {env : DEnv} {σ : L2.St} {H : Hp} : ∀ {rs : List RV} {vs : List V} (j : Nat), RVs C env σ H rs vs → RVs C env σ H (rs.take j) (vs.take j) ∧ RVs C env σ H (rs.drop j) (vs.drop j)
  | rs, vs, 0, h => ⟨by simp [RVs], h⟩
  | [], vs, j + 1, h => by
    have h : vs = [] := h
    subst h
    exact ⟨rfl, rfl⟩
  | r :: rs, vs, j + 1, h => by
    obtain ⟨v, ws, rfl, h1, h2⟩ := h
    obtain ⟨a, b⟩ := RVs.split j h2
    exact ⟨⟨v, ws.take j, rfl, h1, a⟩, b⟩
/-- a list handed in comes back with another content, all else kept -/
theorem Rel.putG {C : DC} {env : DEnv} {σ : L2.St} {H H' : Hp} {a : Addr} (R : Rel C env σ H) {i : Nat} {b : Bool} {xs ys : List Dv} {ws : List V} (e : env[i]? = some (.own b xs)) (h1 : σ[i]? = some (some (.ref a))) (k : ∀ x o, x ≠ a → H x = some o → H' x = some o)
    (ha : H' a = some (.lst ws)) (hs : Dats (MM C env σ) H' ys ws) : Rel C (env.set i (.own b ys)) σ H' ∧ Sh env (env.set i (.own b ys)) ∧ Grow env σ H H' := by
  obtain ⟨a', vs, q1, q2, q3⟩ := R.own i (.lst b) xs e
  have q2 : H a' = some (.lst vs) := q2
  rw [h1] at q1
  cases q1
  have wa : W env σ a := ⟨i, .lst b, xs, e, h1⟩
  have R2 : Rel C env σ (upd H' a (.lst vs)) := R.grow fun x o q => by
    by_cases z : x = a
    · subst z
      rw [upd_same, ← q2, q]
    · rw [upd_ne z]
      exact k x o z q
  have hs2 : Dats (MM C env σ) (upd H' a (.lst vs)) ys ws := by
    refine Dats.to (fun x o n q => ?_) (fun _ z => .inl z) _ _ hs
    have nx : x ≠ a := fun z => n (by rw [z]; exact .inr wa)
    rw [upd_ne nx]
    exact q
  obtain ⟨R3, s3, _⟩ := R2.put e h1 hs2
  have e4 : upd (upd H' a (.lst vs)) a (.lst ws) = H' := by
    rw [upd_upd]
    funext x
    by_cases z : x = a
    · subst z
      rw [upd_same, ha]
    · rw [upd_ne z]
  rw [e4] at R3
  exact ⟨R3, s3, fun x o n q => k x o (fun z => n (z ▸ wa)) q⟩
theorem re_call {n : Nat} {io : Option Nat} {F : FnF} {E : XK} {ta : TA} {fa : AF} (ha : RA ta fa) : RE (tCall (spD n F) [] E ta) (fCall n io F fa) := fun C env σ H Q rv env' h R k => by
  unfold fCall at h
  obtain ⟨⟨rs, e1⟩, h1, h⟩ := Option.bind_eq_some_iff.mp h
  split at h
  case isFalse => cases h
  rename_i hn
  refine ha C env σ H _ rs e1 h1 R fun vs H1 R1 s1 g1 r1 => ?_
  rw [List.append_nil]
  have hvl : vs.length = n := by rw [r1.len]; exact hn
  simp only at h hn
  unfold callF at h
  cases io with
  | none =>
    simp only at h
    obtain ⟨⟨ds, e2⟩, h2, h⟩ := Option.bind_eq_some_iff.mp h
    obtain ⟨⟨r, ys⟩, h3, h⟩ := Option.map_eq_some_iff.mp h
    cases h
    obtain ⟨R2, s2, d2⟩ := frzs_ok R1 r1 h2
    refine ⟨MM C e2 σ, none, ds.map .dat, r, ys, h3, hvl, ⟨by rw [List.length_map]; exact d2.length, fun i d q => ?_, fun i b xs q => ?_, fun i a q => (by cases q), fun a q => R2.memM a q, nop_map⟩, fun v H' keep hr _ => ?_⟩
    · obtain ⟨d', z, q'⟩ := map_dat_get q
      cases z
      exact d2.get q'
    · obtain ⟨d', z, q'⟩ := map_dat_get q
      exact (OK.nodat z).elim
    · have kk : ∀ a o, H1 a = some o → H' a = some o := fun a o q => keep a o (fun i z => by cases z) q
      exact k v H' (R2.grow kk) (s1.trans s2) (g1.trans s1 fun a o _ q => kk a o q) hr
  | some j =>
    simp only at h
    split at h
    case h_2 => cases h
    rename_i i post hd
    obtain ⟨⟨ds1, e2⟩, h2, h⟩ := Option.bind_eq_some_iff.mp h
    obtain ⟨⟨ds2, e3⟩, h3, h⟩ := Option.bind_eq_some_iff.mp h
    obtain ⟨⟨b, xs⟩, h4, h⟩ := Option.bind_eq_some_iff.mp h
    obtain ⟨⟨r, ys⟩, h5, h⟩ := Option.map_eq_some_iff.mp h
    cases h
    obtain ⟨r2, r3⟩ := RVs.split j r1
    rw [hd] at r3
    obtain ⟨v0, ws0, ev, r4, r5⟩ := r3
    have r4 : σ[i]? = some (some v0) := r4
    obtain ⟨R2, s2, d2⟩ := frzs_ok R1 r2 h2
    obtain ⟨R3, s3, d3⟩ := frzs_ok R2 (RVs.step s2 (Grow.refl _ _ _) r5) h3
    have w := ownL_ok h4
    obtain ⟨a, us, q1, q2, q3⟩ := R3.own i (.lst b) xs w
    rw [r4] at q1
    cases q1
    have d2' := (Grow.refl _ _ H1).dats s3 d2
    have hj : j < rs.length := by
      by_cases z : j < rs.length
      · exact z
      · rw [List.drop_of_length_le (by omega)] at hd
        cases hd
    have l1 : ds1.length = j := by rw [frzs_len h2, List.length_take]; omega
    have evs : vs = vs.take j ++ (.ref a :: ws0) := by rw [← ev]; exact (List.take_append_drop j vs).symm
    have l2 : (vs.take j).length = j := by rw [List.length_take, hvl, ← hn]; omega
    have wm : MM C e3 σ a := .inr ⟨i, .lst b, xs, w, r4⟩
    have vj : vs[j]? = some (.ref a) := by
      rw [evs, List.getElem?_append_right (by omega), l2, Nat.sub_self]
      rfl
    have aj : (ds1.map Slot.dat ++ Slot.own true xs :: ds2.map Slot.dat)[j]? = some (.own true xs) := by
      rw [List.getElem?_append_right (by rw [List.length_map]; omega), List.length_map, l1, Nat.sub_self]
      rfl
    have al : ∀ (m : Nat) s, (ds1.map Slot.dat ++ Slot.own true xs :: ds2.map Slot.dat)[m]? = some s → (m < j ∧ ∃ d, s = .dat d ∧ ds1[m]? = some d) ∨ (m = j ∧ s = .own true xs) ∨ (j < m ∧ ∃ d, s = .dat d ∧ ds2[m - j - 1]? = some d) := fun m s q => by
      by_cases z : m < j
      · rw [List.getElem?_append_left (by rw [List.length_map]; omega)] at q
        exact .inl ⟨z, map_dat_get q⟩
      · rw [List.getElem?_append_right (by rw [List.length_map]; omega), List.length_map, l1] at q
        by_cases z2 : m = j
        · subst z2
          rw [Nat.sub_self] at q
          exact .inr (.inl ⟨rfl, (Option.some.inj q).symm⟩)
        · obtain ⟨c, hc⟩ : ∃ c, m - j = c + 1 := ⟨m - j - 1, by omega⟩
          rw [hc] at q
          have q' : (ds2.map Slot.dat)[c]? = some s := q
          have hc2 : m - j - 1 = c := by omega
          rw [hc2]
          exact .inr (.inr ⟨by omega, map_dat_get q'⟩)
    refine ⟨MM C e3 σ, some (j, a), _, r, ys, h5, hvl, ⟨?_, fun m d q => ?_, fun m c zs q => ?_, fun m a' q => ?_, fun a' q => R3.memM a' q, nop_mid⟩, fun v H' keep hr hio => ?_⟩
    · rw [evs, List.length_append, List.length_append, List.length_map, List.length_cons, List.length_cons, List.length_map, l2, l1, d3.length]
    · rcases al m _ q with ⟨z, d', z1, z2⟩ | ⟨_, z1⟩ | ⟨z, d', z1, z2⟩
      · cases z1
        obtain ⟨u, y1, y2⟩ := d2'.get z2
        exact ⟨u, by rw [evs, List.getElem?_append_left (by omega)]; exact y1, y2⟩
      · cases z1
      · cases z1
        obtain ⟨u, y1, y2⟩ := d3.get z2
        refine ⟨u, ?_, y2⟩
        rw [evs, List.getElem?_append_right (by omega), l2]
        obtain ⟨c, hc⟩ : ∃ c, m - j = c + 1 := ⟨m - j - 1, by omega⟩
        have hc2 : m - j - 1 = c := by omega
        rw [hc]
        rw [hc2] at y1
        exact y1
    · rcases al m _ q with ⟨z, d', z1, z2⟩ | ⟨z, z1⟩ | ⟨z, d', z1, z2⟩
      · exact (OK.nodat z1).elim
      · have e2 : c = .lst true ∧ zs = xs := by
          cases c <;> simp only [OK.slot, Slot.own.injEq, reduceCtorEq] at z1
          exact ⟨by rw [z1.1], z1.2⟩
        obtain ⟨rfl, rfl⟩ := e2
        subst z
        exact ⟨rfl, a, us, rfl, vj, q2, q3⟩
      · exact (OK.nodat z1).elim
    · cases q
      exact ⟨wm, vj, xs, aj⟩
    · obtain ⟨ws, y1, y2⟩ := hio j a rfl
      have kk : ∀ x o, x ≠ a → H1 x = some o → H' x = some o := fun x o n q => keep x o (fun i z => by cases z; exact n rfl) q
      obtain ⟨R4, s4, g4⟩ := R3.putG w r4 kk y1 y2
      have ss := (s1.trans s2).trans s3
      exact k v H' R4 (ss.trans s4) (g1.trans s1 fun x o n q => kk x o (fun z => n ((s2.trans s3).w (z ▸ ⟨i, .lst b, xs, w, r4⟩))) q) (hr.to (fun _ _ _ q => q) fun x z => .inl (s4.mm z))
end
end DL

set_option Elab.async false
set_option linter.all false
set_option maxRecDepth 100000
set_option maxHeartbeats 4000000
namespace ZSt
open PySem
open PySem.Sem (wp)
abbrev IsZipS (h : Heap) (z TI TO : Addr) (f0 : Value) : Prop :=
  h.get? z = some { cls := .type "zip", dict := none, data := .fields #[f0, .bool false, .bool true, .ref TI, .ref TO], slots := #[] }
section
variable {prog : Program} {w : World} {A : Around} {E : Value → Shared → Prop} {s : Shared} {z TI TO i1 i2 : Addr} {fp1 fp2 : List Addr} {n1 n2 i : Nat} {P1 P2 : Nat → Value → Prop} {St1 St2 : Nat → Heap → Prop} {a1 a2 : Value}
theorem zipS_next_item {Q : Value → Shared → Prop} (S : ZipSep2 z TI TO i1 i2 fp1 fp2) (D1 : Draws prog w A i1 fp1 n1 P1 St1) (D2 : Draws prog w A i2 fp2 n2 P2 St2)
    (hz : IsZipS s.heap z TI TO .none) (hTI : IsTupOf2 s.heap TI (.ref i1) (.ref i2)) (hTO : IsTupOf2 s.heap TO a1 a2) (st1 : St1 i s.heap) (st2 : St2 i s.heap) (hlt1 : i < n1) (hlt2 : i < n2)
    (hQ : ∀ x1 x2 h' tk, P1 i x1 → P2 i x2 → IsZipS h' z TI TO (rawInt s.heap.objs.size) → IsTupOf2 h' TO x1 x2 → St1 (i + 1) h' → St2 (i + 1) h' → IsTupOf2 h' s.heap.objs.size x1 x2 → h'.objs.size = s.heap.objs.size + 1 →
      (∀ c o, c ≠ z → c ≠ TO → c ≠ i1 → c ≠ i2 → s.heap.get? c = some o → h'.get? c = some o) → Q (.ref s.heap.objs.size) { s with heap := h', toks := tk }) :
    wpAny (model prog w) A (Builtin.«zip.__next__» ⟨[.ref z], []⟩) (fun fin s' => ∃ v, fin = .done (.ret v) ∧ Q v s') E s := by
  obtain ⟨hp, g, d, tk0, os⟩ := s
  show wpAny _ _ (field (.ref z) 2 >>= _) _ _ _
  refine wpAny_bind (wpAny_field hz rfl (x := .bool true) rfl ?_)
  show wpAny _ _ (field (.ref z) 3 >>= _) _ _ _
  refine wpAny_bind (wpAny_field hz rfl (x := .ref TI) rfl ?_)
  refine wpAny_bind (wpAny_seqItems hTI rfl ?_)
  show wpAny _ _ (Builtin.SmallTypes.ownedTupleIsFree (.ref z) >>= _) _ _ _
  refine wpAny_bind ?_
  unfold Builtin.SmallTypes.ownedTupleIsFree
  refine wpAny_bind (wpAny_field hz rfl (x := .none) rfl (wpAny_pure ?_))
  simp only [if_true]
  refine wpAny_bind (wpAny_rule ?_)
  refine wpAny_bind (wpAny_field hz rfl (x := .ref TO) rfl ?_)
  refine wpAny_bind (wpAny_setField_rec hz (by simp) fun g0 hz0 hs0 => ?_)
  replace hz0 : IsZipS g0 z TI TO .ellipsis := hz0
  replace hs0 : Heap.SameBut z hp g0 := hs0
  refine wpAny_bind ?_
  simp only [List.zipIdx_cons, List.zipIdx_nil, List.forIn_cons, List.forIn_nil]
  refine wpAny_bind (wpAny_bind (wpAny_onRaise ?_))
  show wpAny _ _ (Builtin.SmallTypes.nextOrEnd (.ref i1)) _ _ ⟨g0, g, d, tk0, os⟩
  unfold Builtin.SmallTypes.nextOrEnd
  refine wpAny_bind (wpAny_attempt ?_)
  refine D1.item i _ _ _ hlt1 (D1.over st1 hs0 S.zf1) fun x1 p1 tk1 hx1 sn1 hp1 => wpAny_pure ?_
  replace hp1 : Heap.SameBut i1 g0 p1 := hp1
  have hU1 : IsTupOf2 p1 TO a1 a2 := hp1.extBut _ _ S.Ti1 (hs0.extBut _ _ S.TOz hTO)
  refine wpAny_bind (wpAny_seqItems (s := ⟨p1, g, d, tk1, os⟩) hU1 rfl ?_)
  refine wpAny_bind (updateSeq_IsTupOf2 (s := ⟨p1, g, d, tk1, os⟩) hU1 fun g1 hT1 hs1 => ?_)
  replace hT1 : IsTupOf2 g1 TO x1 a2 := hT1
  replace hs1 : Heap.SameBut TO p1 g1 := hs1
  refine wpAny_bind (wpAny_letGo (wpAny_pure ?_))
  refine wpAny_bind (wpAny_bind (wpAny_onRaise ?_))
  show wpAny _ _ (Builtin.SmallTypes.nextOrEnd (.ref i2)) _ _ ⟨g1, g, d, tk1, os⟩
  unfold Builtin.SmallTypes.nextOrEnd
  refine wpAny_bind (wpAny_attempt ?_)
  refine D2.item i _ _ _ hlt2 (D2.over (D2.over (D2.over st2 hs0 S.zf2) hp1 S.sep1_2) hs1 S.Tf2) fun x2 p2 tk2 hx2 sn2 hp2 => wpAny_pure ?_
  replace hp2 : Heap.SameBut i2 g1 p2 := hp2
  have hU2 : IsTupOf2 p2 TO x1 a2 := hp2.extBut _ _ S.Ti2 hT1
  refine wpAny_bind (wpAny_seqItems (s := ⟨p2, g, d, tk2, os⟩) hU2 rfl ?_)
  refine wpAny_bind (updateSeq_IsTupOf2 (s := ⟨p2, g, d, tk2, os⟩) hU2 fun g2 hT2 hs2 => ?_)
  replace hT2 : IsTupOf2 g2 TO x1 x2 := hT2
  replace hs2 : Heap.SameBut TO p2 g2 := hs2
  refine wpAny_bind (wpAny_letGo (wpAny_pure (wpAny_pure ?_)))
  refine wpAny_bind (wpAny_seqItems (s := ⟨g2, g, d, tk2, os⟩) hT2 rfl ?_)
  refine wpAny_bind (wpAny_newTuple ?_)
  have hsz : g2.objs.size = hp.objs.size := by rw [hs2.1, hp2.1, hs1.1, hp1.1, hs0.1]
  have hzz : IsZipS g2 z TI TO .ellipsis := (hs2.extBut _ _ S.TOz.symm (hp2.extBut _ _ S.zi2 (hs1.extBut _ _ S.TOz.symm (hp1.extBut _ _ S.zi1 hz0))))
  have hkk : ∀ c o, c ≠ z → c ≠ TO → c ≠ i1 → c ≠ i2 → hp.get? c = some o → g2.get? c = some o := fun c o cz cT c1 c2 e =>
    (hs2.extBut _ _ cT (hp2.extBut _ _ c2 (hs1.extBut _ _ cT (hp1.extBut _ _ c1 (hs0.extBut _ _ cz e)))))
  have hj1 : St1 (i + 1) g2 := (D1.over (D1.over (D1.over sn1 hs1 S.Tf1) hp2 S.sep2_1) hs2 S.Tf1)
  have hj2 : St2 (i + 1) g2 := (D2.over sn2 hs2 S.Tf2)
  have hzlt : z < g2.objs.size := Heap.lt_size hzz
  show wpAny _ _ (Builtin.SmallTypes.ownedTupleHandOut (.ref z) (.ref g2.objs.size) >>= _) _ _ ⟨g2.push { cls := .type "tuple", data := .seq #[x1, x2] }, g, d, tk2, os⟩
  refine wpAny_bind ?_
  unfold Builtin.SmallTypes.ownedTupleHandOut
  have hz₆ : IsZipS (g2.push { cls := .type "tuple", data := .seq #[x1, x2] }) z TI TO .ellipsis := Heap.get?_push_of_some _ hzz
  refine wpAny_bind (wpAny_setField_rec hz₆ (by simp) fun h₇ hz₇ hs₇ => ?_)
  replace hz₇ : IsZipS h₇ z TI TO (rawInt g2.objs.size) := hz₇
  refine wpAny_setField_rec hz₇ (by simp) fun h₈ hz₈ hs₈ => ?_
  replace hz₈ : IsZipS h₈ z TI TO (rawInt g2.objs.size) := hz₈
  replace hs₇ : Heap.SameBut z (g2.push { cls := .type "tuple", data := .seq #[x1, x2] }) h₇ := hs₇
  replace hs₈ : Heap.SameBut z h₇ h₈ := hs₈
  have up : ∀ c o, c ≠ z → g2.get? c = some o → h₈.get? c = some o := fun c o c1 e => hs₈.extBut _ _ c1 (hs₇.extBut _ _ c1 (Heap.get?_push_of_some _ e))
  have hT₈ : IsTupOf2 h₈ g2.objs.size x1 x2 := hs₈.extBut _ _ (Nat.ne_of_gt hzlt) (hs₇.extBut _ _ (Nat.ne_of_gt hzlt) (Heap.get?_push_size _ rfl))
  have hz8 : h₈.objs.size = g2.objs.size + 1 := by rw [hs₈.1, hs₇.1, Heap.size_push]
  rw [hsz] at hz₈ hT₈ hz8
  refine wpAny_pure ⟨_, rfl, ?_⟩
  show Q (.ref g2.objs.size) ⟨h₈, g, d, tk2, os⟩
  rw [hsz]
  exact hQ x1 x2 h₈ tk2 hx1 hx2 hz₈ (up _ _ S.TOz hT2) (D1.frame _ _ _ hj1 fun b hb o e => up b o (fun q => S.zf1 (q ▸ hb)) e) (D2.frame _ _ _ hj2 fun b hb o e => up b o (fun q => S.zf2 (q ▸ hb)) e) hT₈ hz8 fun c o cz cT c1 c2 e => up c o cz (hkk c o cz cT c1 c2 e)


theorem zipS_next_end {Q : Fin → Shared → Prop} (hh : A.handled = none) (S : ZipSep2 z TI TO i1 i2 fp1 fp2) (D1 : Draws prog w A i1 fp1 n1 P1 St1) (D2 : Draws prog w A i2 fp2 n2 P2 St2)
    (hz : IsZipS s.heap z TI TO .none) (hTI : IsTupOf2 s.heap TI (.ref i1) (.ref i2)) (hTO : IsTupOf2 s.heap TO a1 a2) (st1 : St1 n1 s.heap) (st2 : St2 n2 s.heap)
    (hE : ∀ h' tk e, (∀ c o, c ≠ z → c ≠ TO → c ≠ i1 → c ≠ i2 → s.heap.get? c = some o → h'.get? c = some o) → (∃ o, h'.get? e = some o ∧ o.cls = .type "StopIteration") → E (.ref e) { s with heap := h', toks := tk }) :
    wpAny (model prog w) A (Builtin.«zip.__next__» ⟨[.ref z], []⟩) Q E s := by
  obtain ⟨hp, g, d, tk0, os⟩ := s
  show wpAny _ _ (field (.ref z) 2 >>= _) _ _ _
  refine wpAny_bind (wpAny_field hz rfl (x := .bool true) rfl ?_)
  show wpAny _ _ (field (.ref z) 3 >>= _) _ _ _
  refine wpAny_bind (wpAny_field hz rfl (x := .ref TI) rfl ?_)
  refine wpAny_bind (wpAny_seqItems hTI rfl ?_)
  show wpAny _ _ (Builtin.SmallTypes.ownedTupleIsFree (.ref z) >>= _) _ _ _
  refine wpAny_bind ?_
  unfold Builtin.SmallTypes.ownedTupleIsFree
  refine wpAny_bind (wpAny_field hz rfl (x := .none) rfl (wpAny_pure ?_))
  simp only [if_true]
  refine wpAny_bind (wpAny_rule ?_)
  refine wpAny_bind (wpAny_field hz rfl (x := .ref TO) rfl ?_)
  refine wpAny_bind (wpAny_setField_rec hz (by simp) fun g0 hz0 hs0 => ?_)
  replace hz0 : IsZipS g0 z TI TO .ellipsis := hz0
  replace hs0 : Heap.SameBut z hp g0 := hs0
  refine wpAny_bind ?_
  simp only [List.zipIdx_cons, List.zipIdx_nil, List.forIn_cons, List.forIn_nil]
  refine wpAny_bind (wpAny_bind (wpAny_onRaise ?_))
  show wpAny _ _ (Builtin.SmallTypes.nextOrEnd (.ref i1)) _ _ ⟨g0, g, d, tk0, os⟩
  unfold Builtin.SmallTypes.nextOrEnd
  refine wpAny_bind (wpAny_attempt ?_)
  refine D1.done ⟨g0, g, d, tk0, os⟩ _ _ (D1.over st1 hs0 S.zf1) fun q e hq he => ?_
  replace hq : Heap.ExtBut i1 g0 q := hq
  refine wpAny_bind (wpAny_isInstance (T := "StopIteration") (b := true) he isSubtype_stop ?_)
  refine wpAny_pure ?_
  have hzq : IsZipS q z TI TO .ellipsis := hq _ _ S.zi1 hz0
  show wpAny _ _ (setField (.ref z) 0 .none >>= _) _ _ _
  refine wpAny_bind (wpAny_setField_rec (s := ⟨q, g, d, tk0, os⟩) hzq (by simp) fun q' hz' hq' => ?_)
  replace hq' : Heap.SameBut z q q' := hq'
  refine wpAny_bind ?_
  show wpAny _ _ (forIn ((([Value.ref i1, Value.ref i2] : List Value).drop 1).zipIdx 1) _ _ >>= _) _ _ _
  refine wpAny_bind ?_
  simp only [List.drop_succ_cons, List.drop_zero, List.zipIdx_cons, List.zipIdx_nil, List.forIn_cons, List.forIn_nil]
  refine wpAny_bind ?_
  refine wpAny_bind ?_
  unfold Builtin.SmallTypes.nextOrEnd
  refine wpAny_bind (wpAny_attempt ?_)
  have st2' : St2 n2 q' := D2.frame _ _ _ (D2.over st2 hs0 S.zf2) fun b hb o x => hq'.extBut _ _ (fun q => S.zf2 (q ▸ hb)) (hq _ _ (fun q => S.sep1_2 (q ▸ hb)) x)
  refine D2.done ⟨q', g, d, tk0, os⟩ _ _ st2' fun r e2 hr he2 => ?_
  replace hr : Heap.ExtBut i2 q' r := hr
  refine wpAny_bind (wpAny_isInstance (T := "StopIteration") (b := true) he2 isSubtype_stop ?_)
  refine wpAny_pure ?_
  simp only [Option.isSome_none, Bool.false_eq_true, if_false]
  refine wpAny_pure ?_
  refine wpAny_pure ?_
  refine wpAny_bind (wpAny_rule ?_)
  unfold Builtin.SmallTypes.stopIteration
  refine wpAny_bind ?_
  simp only [newExc, newTuple]
  refine wpAny_bind (wpAny_newObj_type ?_ (by size_fits))
  refine wpAny_bind (m := firstArgMember _ _) (wpAny_of_eq (a := Value.none) (by first | rfl | (simp only [firstArgMember]; rfl)) ?_)
  refine wpAny_newObj_type ?_ (by size_fits)
  simp only [raiseNew]
  refine wpAny_bind (wpAny_handled ?_)
  first | rw [show A.in1.handled = none from hh] | rw [hh]
  refine wpAny_bind (wpAny_pure (wpAny_throw ?_))
  refine hE _ _ _ (fun c o c1 c2 c3 c4 x => Heap.get?_push_of_some _ (Heap.get?_push_of_some _ (hr _ _ c4 (hq'.extBut _ _ c1 (hq _ _ c3 (hs0.extBut _ _ c1 x)))))) ⟨_, Heap.get?_push_size _ rfl, rfl⟩
theorem pyNext_zipS_item {Q : Option Value → Shared → Prop} (S : ZipSep2 z TI TO i1 i2 fp1 fp2) (D1 : Draws prog w A.in1 i1 fp1 n1 P1 St1) (D2 : Draws prog w A.in1 i2 fp2 n2 P2 St2)
    (hz : IsZipS s.heap z TI TO .none) (hTI : IsTupOf2 s.heap TI (.ref i1) (.ref i2)) (hTO : IsTupOf2 s.heap TO a1 a2) (st1 : St1 i s.heap) (st2 : St2 i s.heap) (hlt1 : i < n1) (hlt2 : i < n2)
    (hQ : ∀ x1 x2 h' tk, P1 i x1 → P2 i x2 → IsZipS h' z TI TO (rawInt s.heap.objs.size) → IsTupOf2 h' TO x1 x2 → St1 (i + 1) h' → St2 (i + 1) h' → IsTupOf2 h' s.heap.objs.size x1 x2 → h'.objs.size = s.heap.objs.size + 1 →
      (∀ c o, c ≠ z → c ≠ TO → c ≠ i1 → c ≠ i2 → s.heap.get? c = some o → h'.get? c = some o) → Q (some (.ref s.heap.objs.size)) { s with heap := h', toks := tk }) :
    wpAny (model prog w) A (pyNext (.ref z)) Q E s := by
  have hT : s.TypeIs (.ref z) "zip" := ⟨_, hz, rfl⟩
  unfold pyNext
  exact wpAny_bind (wpAny_attempt (wpAny_callSpecial?_slot (name := Str.ofString "__next__") hT F.slot_zip_next
    (wpAny_call_entry F.slot_zip_next hT F.entry_zip_next
      (zipS_next_item S D1 D2 hz hTI hTO st1 st2 hlt1 hlt2 fun x1 x2 h' tk y1 y2 b1 b2 d1 d2 b5 b6 b7 => wpAny_pure (hQ x1 x2 h' tk y1 y2 b1 b2 d1 d2 b5 b6 b7)) (F.args_zip_next_1 _))))
theorem pyNext_zipS_end {Q : Option Value → Shared → Prop} (hh : A.handled = none) (S : ZipSep2 z TI TO i1 i2 fp1 fp2) (D1 : Draws prog w A.in1 i1 fp1 n1 P1 St1) (D2 : Draws prog w A.in1 i2 fp2 n2 P2 St2)
    (hz : IsZipS s.heap z TI TO .none) (hTI : IsTupOf2 s.heap TI (.ref i1) (.ref i2)) (hTO : IsTupOf2 s.heap TO a1 a2) (st1 : St1 n1 s.heap) (st2 : St2 n2 s.heap)
    (hQ : ∀ h' tk, (∀ c o, c ≠ z → c ≠ TO → c ≠ i1 → c ≠ i2 → s.heap.get? c = some o → h'.get? c = some o) → Q none { s with heap := h', toks := tk }) : wpAny (model prog w) A (pyNext (.ref z)) Q E s := by
  have hT : s.TypeIs (.ref z) "zip" := ⟨_, hz, rfl⟩
  unfold pyNext
  refine wpAny_bind (wpAny_attempt (wpAny_callSpecial?_slot (name := Str.ofString "__next__") hT F.slot_zip_next
    (wpAny_call_entry F.slot_zip_next hT F.entry_zip_next (zipS_next_end (show A.in1.handled = none from hh) S D1 D2 hz hTI hTO st1 st2 fun h' tk e hk he => ?_) (F.args_zip_next_1 _))))
  obtain ⟨o, ho, hc⟩ := he
  refine wpAny_bind (wpAny_isInstance (T := "StopIteration") (b := true) ⟨o, ho, hc⟩ isSubtype_stop ?_)
  exact wpAny_pure (hQ _ _ hk)
theorem letOwnedTupleGo_zipS {elts : List Expr} {x1} {pos : Pos} {z TI TO T : Addr} {Q : Unit → Shared → Prop} (hz : IsZipS s.heap z TI TO (rawInt T))
    (hQ : ∀ h', IsZipS h' z TI TO .none → Heap.SameBut z s.heap h' → Q () { s with heap := h' }) :
    wpAny (model prog w) A (letOwnedTupleGo (.Tuple elts x1 pos) (.ref z) (.ref T)) Q E s := by
  unfold letOwnedTupleGo
  refine wpAny_bind (wpAny_load hz ?_)
  show wpAny _ _ (if (["enumerate", "zip", "dict_itemiterator", "dict_reverseitemiterator", "odict_iterator", "itertools.zip_longest", "itertools.pairwise"].contains "zip" &&
      (#[rawInt T, .bool false, .bool true, .ref TI, .ref TO] : Array Value)[0]? == some (rawInt T)) = true then _ else _) Q E s
  rw [if_pos (by simp)]
  refine wpAny_bind (wpAny_rule ?_)
  show wpAny _ _ (setField (.ref z) 0 .none) Q E s
  exact wpAny_setField_rec hz (by simp) fun h' hz' hs' => hQ h' hz' hs'
theorem pyIter_zipS {z TI TO : Addr} {f0 : Value} {Q : Value → Shared → Prop} (hz : IsZipS s.heap z TI TO f0) (h : Q (.ref z) s) : wpAny (model prog w) A (pyIter (.ref z)) Q E s := by
  have hT : s.TypeIs (.ref z) "zip" := ⟨_, hz, rfl⟩
  refine wpAny_pyIter_slot hT F.slot_zip_iter (wpAny_call_entry F.slot_zip_iter hT F.entry_zip_iter ?_ (F.args_zip_iter_1 _))
  show wpAny _ _ (ret (.ref z)) _ _ s
  exact wpAny_pure ⟨_, rfl, "zip", _, hT, F.slot_zip_next.lookup, h⟩
end
abbrev gzS (h : Heap) (o1 o2 : Obj) : Heap := (gzO2 h o1 o2).push { cls := .type "zip", data := .fields #[.none, .bool false, .bool true, .ref ((h.push o1).push o2).objs.size, .ref (gzT2 h o1 o2).objs.size] }
theorem typeCall_zip_s (a b c : Value) : checkTypeCall "zip" ⟨[a, b], [(Str.ofString "strict", c)]⟩ = pure () := by kernel_rfl
theorem newCall_zip_s (a b c : Value) : checkBuiltinCall "zip.__new__" ⟨[.type "zip", a, b], [(Str.ofString "strict", c)]⟩ = pure () := by kernel_rfl
theorem args_init_s (obj a b c : Value) : argsOk "object.__init__" ⟨[obj, a, b], [(Str.ofString "strict", c)]⟩ := by unfold argsOk; kernel_rfl
theorem meets_zip_newS {v1 v2 : Value} {o1 o2 : Obj} {H1 H2 : Heap → Prop} (B1 : Begins v1 o1 H1) (B2 : Begins v2 o2 H2) :
    Meets (Builtin.«zip.__new__» ⟨[.type "zip", v1, v2], [(Str.ofString "strict", .bool true)]⟩) (fun _ R s => (H1 s.heap ∧ H2 s.heap) ∧
      R (.ok (.ret (.ref (gzO2 s.heap o1 o2).objs.size))) { s with heap := gzS s.heap o1 o2 }) :=
  .of_wp fun prog w A R s h => by
    obtain ⟨hp, g, d, tk, os⟩ := s; obtain ⟨⟨h1, h2⟩, h⟩ := h
    have hsub := sub_zip
    have q1 : ∀ {A' : Around} {E : Value → Shared → Prop} {Q : Value → Shared → Prop}, Q (.ref hp.objs.size) ⟨(hp.push o1), g, d, tk, os⟩ → wpAny (model prog w) A' (pyIter v1) Q E ⟨hp, g, d, tk, os⟩ :=
      fun q => B1.iter prog w _ _ ⟨hp, g, d, tk, os⟩ _ (B1.keeps _ _ h1 fun b o' e => e) q
    have q2 : ∀ {A' : Around} {E : Value → Shared → Prop} {Q : Value → Shared → Prop}, Q (.ref (hp.push o1).objs.size) ⟨((hp.push o1).push o2), g, d, tk, os⟩ → wpAny (model prog w) A' (pyIter v2) Q E ⟨(hp.push o1), g, d, tk, os⟩ :=
      fun q => B2.iter prog w _ _ ⟨(hp.push o1), g, d, tk, os⟩ _ (B2.keeps _ _ h2 fun b o' e => (Heap.get?_push_of_some _ e)) q
    have e1 : (Str.ofString "strict" == ("strict" : Str)) = true := by decide +kernel
    have e2 : (Str.ofString "strict" != ("strict" : Str)) = false := by decide +kernel
    wp_walk using q1, q2
    exact ⟨_, rfl, h⟩
section
variable {prog : Program} {w : World} {A : Around} {E : Value → Shared → Prop} {s : Shared}
theorem zip_beginsS {v1 v2 : Value} {o1 o2 : Obj} {H1 H2 : Heap → Prop} {Q : Value → Shared → Prop} (B1 : Begins v1 o1 H1) (B2 : Begins v2 o2 H2) (h1 : H1 s.heap) (h2 : H2 s.heap)
    (h : ∀ h', IsZipS h' (s.heap.objs.size + 4) (s.heap.objs.size + 2) (s.heap.objs.size + 3) .none → IsTupOf2 h' (s.heap.objs.size + 2) (.ref s.heap.objs.size) (.ref (s.heap.objs.size + 1)) →
      IsTupOf2 h' (s.heap.objs.size + 3) .none .none → h'.get? s.heap.objs.size = some o1 → h'.get? (s.heap.objs.size + 1) = some o2 → h'.objs.size = s.heap.objs.size + 5 →
      (∀ c o, s.heap.get? c = some o → h'.get? c = some o) → Q (.ref (s.heap.objs.size + 4)) { s with heap := h' }) :
    wpAny (model prog w) A (call (.type "zip") [v1, v2] [(Str.ofString "strict", .bool true)]) Q E s := by
  refine callType_newKw F.called_zip (by decide) (typeCall_zip_s _ _ _) (newCall_zip_s _ _ _) (fun obj => args_init_s obj _ _ _) F.entry_zip_new
    (meets_zip_newS B1 B2) ⟨⟨h1, h2⟩, ?_⟩
  have z1 : (s.heap.push o1).objs.size = s.heap.objs.size + 1 := by rw [Heap.size_push]
  have z2 : ((s.heap.push o1).push o2).objs.size = s.heap.objs.size + 2 := by rw [Heap.size_push, z1]
  have zT : (gzT2 s.heap o1 o2).objs.size = s.heap.objs.size + 3 := by rw [Heap.size_push, z2]
  have zO : (gzO2 s.heap o1 o2).objs.size = s.heap.objs.size + 4 := by rw [Heap.size_push, zT]
  have zZ : (gzS s.heap o1 o2).objs.size = s.heap.objs.size + 5 := by rw [Heap.size_push, zO]
  have gZ : (gzS s.heap o1 o2).get? (gzO2 s.heap o1 o2).objs.size = some { cls := .type "zip", data := .fields #[.none, .bool false, .bool true, .ref ((s.heap.push o1).push o2).objs.size, .ref (gzT2 s.heap o1 o2).objs.size] } := Heap.get?_push_size _ rfl
  have gO : (gzS s.heap o1 o2).get? (gzT2 s.heap o1 o2).objs.size = some { cls := .type "tuple", data := .seq #[.none, .none] } := Heap.get?_push_of_some _ (Heap.get?_push_size _ rfl)
  have gT : (gzS s.heap o1 o2).get? ((s.heap.push o1).push o2).objs.size = some { cls := .type "tuple", data := .seq #[.ref s.heap.objs.size, .ref (s.heap.push o1).objs.size] } := Heap.get?_push_of_some _ (Heap.get?_push_of_some _ (Heap.get?_push_size _ rfl))
  have g1 : (gzS s.heap o1 o2).get? s.heap.objs.size = some o1 := Heap.get?_push_of_some _ (Heap.get?_push_of_some _ (Heap.get?_push_of_some _ (Heap.get?_push_of_some _ (Heap.get?_push_size _ B1.free))))
  have g2 : (gzS s.heap o1 o2).get? (s.heap.push o1).objs.size = some o2 := Heap.get?_push_of_some _ (Heap.get?_push_of_some _ (Heap.get?_push_of_some _ (Heap.get?_push_size _ B2.free)))
  rw [zO, zT, z2] at gZ
  rw [zT] at gO
  rw [z2, z1] at gT
  rw [z1] at g2
  show _ ∧ _
  rw [zO]
  exact ⟨⟨_, gZ, rfl⟩, h _ gZ gT gO g1 g2 zZ fun c o e => Heap.get?_push_of_some _ (Heap.get?_push_of_some _ (Heap.get?_push_of_some _ (Heap.get?_push_of_some _ (Heap.get?_push_of_some _ e))))⟩
theorem callWith_type_kwB {M : Model} {pos : Pos} {T : String} {first : List Value} {args : List (Bool × Sem Value)} {keywords : List (Option Str × Sem Value)} {Q : Value → Shared → Prop}
    (hplain : args.any (·.1) = false) (hkw : keywords.any (·.1.isNone) = false)
    (h : wpAny M A (evalArgs (.type T) true args keywords) (fun a s₁ => wpAny M A (call (.type T) (first ++ a.pos) a.kw) Q E s₁) E s) :
    wpAny M A (callWith pos (.type T) first args keywords) Q E s := by
  unfold callWith
  refine wpAny_bind (wpAny_holding (wpAny_mono h (fun a s₁ h₁ => wpAny_bind (wpAny_standAt ?_)) fun _ _ x => x))
  simp only [hplain, hkw, Bool.or_false]
  refine wpAny_bind (wpAny_pure ?_)
  exact wpAny_bind (wpAny_mono h₁ (fun r s₂ hr => wpAny_bind (wpAny_holding (wpAny_point (wpAny_pure hr)))) fun _ _ x => x)
theorem callWith_type_kw {M : Model} {env : Env} {pos : Pos} {T : String} {e : Expr} {rest : List Expr} {kws : List Keyword} {Q : Value → Shared → Prop}
    (h : wpAny M A (spliced (backTo pos (starEach (e :: rest) env))) (fun vs s₁ => wpAny M A (evalAll ((backToKw pos (keywordEach kws env)).map (·.2)))
      (fun kvs s₂ => wpAny M A (call (.type T) vs (((backToKw pos (keywordEach kws env)).filterMap (·.1)).zip kvs)) Q E s₂) E s₁) E s)
    (he : backTo pos (starEach (e :: rest) env) = (false, eval e env) :: backTo pos (starEach rest env) := by rfl)
    (hplain : (backTo pos (starEach (e :: rest) env)).any (·.1) = false := by rfl)
    (hall : (backToKw pos (keywordEach kws env)).all (·.1.isSome) = true := by rfl)
    (hkw : (backToKw pos (keywordEach kws env)).any (·.1.isNone) = false := by rfl) :
    wpAny M A (callWith pos (.type T) [] (backTo pos (starEach (e :: rest) env)) (backToKw pos (keywordEach kws env))) Q E s := by
  refine callWith_type_kwB hplain hkw ?_
  rw [he] at h ⊢
  exact PyProof.Rows.evalArgs_kwB hall h
end
end ZSt
namespace L2
open PySem PySem.Spec PyProof.Rows ZSt
/-! ### zip(a, b, strict=True) in a for or a comprehension: lists and tuples in any mix, of one length -/
def SqK (K : PySem.W.Frag) (k : Bool) (H : Hp) (a : Addr) (xs : List V) : Prop := if k = true then SqL K H a xs else SqT K H a xs
def ItK (k : Bool) (h : Heap) (it a : Addr) (i : Nat) : Prop := if k = true then h.IsListIter it a i else h.IsTupleIter it a i
def SeqK (k : Bool) (h : Heap) (a : Addr) (its : Array Value) : Prop := if k = true then h.IsList a its else h.IsTuple a its
def itObj (k : Bool) (a : Addr) : Obj := if k = true then { cls := .type "list_iterator", data := .fields #[.ref a, .int 0 0] } else { cls := .type "tuple_iterator", data := .fields #[.ref a, .int 0 0] }
theorem draws_k {P : Program} {w : World} {A : Around} (k : Bool) (hh : A.handled = none) (it a : Addr) (hne : a ≠ it) (items : Array Value) :
    Draws P w A it [it, a] items.size (fun i v => items[i]? = some v) (fun i h => ItK k h it a i ∧ SeqK k h a items) := by
  cases k with
  | true => exact Draws.list hh it a hne items
  | false => exact Draws.tuple hh it a hne items
theorem begins_k (k : Bool) (a : Addr) (items : Array Value) : Begins (.ref a) (itObj k a) fun h => SeqK k h a items := by
  cases k with
  | true => exact begins_list a items
  | false => exact begins_tuple a items
theorem ItK.at {k : Bool} {h h' : Heap} {it a : Addr} {i : Nat} (x : ItK k h it a i) (q : ∀ o, h.get? it = some o → h'.get? it = some o) : ItK k h' it a i := by
  cases k with
  | true => exact Heap.IsListIter.at x q
  | false => exact Heap.IsTupleIter.at x q
theorem ItK.obj {k : Bool} {h : Heap} {it a : Addr} {i : Nat} (x : ItK k h it a i) : ∃ o, h.get? it = some o ∧ ∀ v, o.data ≠ .cell v := by
  cases k with
  | true =>
    obtain ⟨o, e, _, d⟩ := x
    exact ⟨o, e, fun v q => by rw [d] at q; cases q⟩
  | false =>
    obtain ⟨o, e, _, d⟩ := x
    exact ⟨o, e, fun v q => by rw [d] at q; cases q⟩
theorem ItK.new {k : Bool} {h : Heap} {it a : Addr} (e : h.get? it = some (itObj k a)) : ItK k h it a 0 := by
  cases k with
  | true => exact ⟨_, e, rfl, rfl⟩
  | false => exact ⟨_, e, rfl, rfl⟩
section
variable {X : Cx} {pins : List (Addr × Obj)} {σ : St} {H : Hp} {s : Shared} {a : Addr} {xs ys : List V} {k : Bool}
theorem Inv.seqK (I : Inv X pins σ H s) (h : SqK X.K k H a xs) : ∃ its : List Value, Vals xs its ∧ SeqK k s.heap a its.toArray := by
  cases k with
  | true =>
    obtain ⟨its, r, p, _⟩ := I.list h
    exact ⟨its, r, p.isList⟩
  | false =>
    obtain ⟨its, r, p, _⟩ := I.tuple h
    exact ⟨its, r, p⟩
theorem Inv.seqK_inj (I : Inv X pins σ H s) (h : SqK X.K k H a xs) (h' : SqK X.K k H a ys) : xs = ys := by
  cases k with
  | true => exact I.list_inj h h'
  | false => exact I.tuple_inj h h'
end
/-- the two sequences as they stand at each turn, the items in new pairs -/
def ItzS (K : PySem.W.Frag) (k1 k2 : Bool) (a b : Addr) : It :=
  ⟨fun i H => ∃ (xs ys : List V) (x y : V), SqK K k1 H a xs ∧ SqK K k2 H b ys ∧ xs[i]? = some x ∧ ys[i]? = some y,
    fun i H v H' => ∃ T x y, v = .ref T ∧ H T = none ∧ H' = upd H T (.tup [x, y]) ∧ (∀ xs, SqK K k1 H a xs → xs[i]? = some x) ∧ ∀ ys, SqK K k2 H b ys → ys[i]? = some y,
    fun i H => ∃ xs ys : List V, SqK K k1 H a xs ∧ SqK K k2 H b ys ∧ xs.length = i ∧ ys.length = i⟩
theorem ne_succ {a N : Nat} (h : a < N) : a ≠ N + 1 := by omega
theorem lt5 {c N S : Nat} (h : N + 4 < S) (e : c = N + 4 ∨ c = N + 2 ∨ c = N + 3 ∨ c = N ∨ c = N + 1) : c < S := by omega
theorem ge5 {c N : Nat} (e : c = N + 4 ∨ c = N + 2 ∨ c = N + 3 ∨ c = N ∨ c = N + 1) : N ≤ c := by omega
/-- the five new cells lie apart -/
theorem sep_k {N a b : Addr} (ha : a < N) (hb : b < N) : ZipSep2 (N + 4) (N + 2) (N + 3) N (N + 1) [N, a] [N + 1, b] := by
  have h1 : ∀ c ∈ [a], c < N := fun c hc => by
    have e : c = a := by simpa using hc
    rw [e]
    exact ha
  have h2 : ∀ c ∈ [b], c < N := fun c hc => by
    have e : c = b := by simpa using hc
    rw [e]
    exact hb
  exact zip_sep2 (N := N) h1 h2
theorem turn_zipS {P : Program} {w : World} {K : PySem.W.Frag} {elts : List Expr} {kk : Nat} {tpos : Pos} {k1 k2 : Bool} {a b N : Addr} (ha : a < N) (hb : b < N) :
    Turn P w K (.Tuple elts kk tpos) (ItzS K k1 k2 a b) [N + 4, N + 2, N + 3, N, N + 1] (N + 4) (fun i h => IsZipS h (N + 4) (N + 2) (N + 3) .none ∧ IsTupOf2 h (N + 2) (.ref N) (.ref (N + 1)) ∧ (∃ x y, IsTupOf2 h (N + 3) x y) ∧ ItK k1 h N a i ∧ ItK k2 h (N + 1) b i) where
  mem := by simp
  obj := fun i h st c hc => by
    obtain ⟨hz, hTI, ⟨x, y, hTO⟩, h1, h2⟩ := st
    have e' : c = N + 4 ∨ c = N + 2 ∨ c = N + 3 ∨ c = N ∨ c = N + 1 := by simpa using hc
    rcases e' with q | q | q | q | q
    · rw [q]; exact ⟨_, hz, fun v q => nomatch q⟩
    · rw [q]; exact ⟨_, hTI, fun v q => nomatch q⟩
    · rw [q]; exact ⟨_, hTO, fun v q => nomatch q⟩
    · rw [q]; exact h1.obj
    · rw [q]; exact h2.obj
  keep := fun i h h' st k => by
    obtain ⟨hz, hTI, ⟨x, y, hTO⟩, h1, h2⟩ := st
    exact ⟨k _ (by simp) _ hz, k _ (by simp) _ hTI, ⟨x, y, k _ (by simp) _ hTO⟩, h1.at fun o q => k N (by simp) o q, h2.at fun o q => k (N + 1) (by simp) o q⟩
  item := by
    intro X hP hw hK hc i pins s σ H E I hf st hg
    subst hP hw hK
    have S := sep_k ha hb
    obtain ⟨hz, hTI, ⟨x0, y0, hTO⟩, h1, h2⟩ := st
    obtain ⟨xs, ys, x, y, hqx, hqy, hx, hy⟩ := hg
    obtain ⟨its, rv, p⟩ := I.seqK hqx
    obtain ⟨its2, rv2, p2⟩ := I.seqK hqy
    obtain ⟨u, hu, ru⟩ := rv.get hx
    obtain ⟨u2, hu2, ru2⟩ := rv2.get hy
    have hzl : N + 4 < s.heap.objs.size := Heap.lt_size hz
    have hi1 : i < its.toArray.size := by
      have := (List.getElem?_eq_some_iff.mp hu).1
      simpa using this
    have hi2 : i < its2.toArray.size := by
      have := (List.getElem?_eq_some_iff.mp hu2).1
      simpa using this
    have hd : X.A.in1.handled = none := I.ok.hd hc
    refine pyNext_zipS_item S (draws_k k1 hd N a (Nat.ne_of_lt ha) its.toArray) (draws_k k2 hd (N + 1) b (ne_succ hb) its2.toArray) hz hTI hTO ⟨h1, p⟩ ⟨h2, p2⟩ hi1 hi2 fun w1 w2 h' tk z1 z2 z' TO' g1 g2 hT hsz hk => ?_
    have e1 : w1 = u := by
      have q : its[i]? = some w1 := by simpa using z1
      rw [hu] at q
      exact (Option.some.inj q).symm
    have e2 : w2 = u2 := by
      have q : its2[i]? = some w2 := by simpa using z2
      rw [hu2] at q
      exact (Option.some.inj q).symm
    subst e1 e2
    refine ⟨_, rfl, letOwnedTupleGo_zipS (s := { s with heap := h', toks := tk }) z' fun h'' z'' sb => ?_⟩
    have hT2 : h''.get? s.heap.objs.size = some { cls := .type "tuple", data := .seq #[w1, w2] } := (sb.2 _ (Nat.ne_of_gt hzl)).trans hT
    have new : ObjOk X.prog X.w (upd H s.heap.objs.size (.tup [x, y])) h'' s.heap.objs.size (.tup [x, y]) :=
      ⟨by show 2 ≤ sizeLine; decide, [w1, w2], .cons ru (.cons ru2 .nil), ⟨_, hT2, rfl, _, rfl⟩⟩
    have I1 : Inv X pins σ (upd H s.heap.objs.size (.tup [x, y])) { s with heap := h'', toks := tk } :=
      I.turnedNew (t' := tk) (ch := [N + 4, N + 2, N + 3, N, N + 1]) (fun c o hb q => (sb.2 c (fun q' => hb (by simp [q']))).trans (hk c o (fun q' => hb (by simp [q'])) (fun q' => hb (by simp [q'])) (fun q' => hb (by simp [q'])) (fun q' => hb (by simp [q'])) q)) hf (Nat.le_refl _) new
    refine ⟨.ref s.heap.objs.size, _, I1, rfl, ⟨_, x, y, rfl, I.hok.fresh (Nat.le_refl _), rfl, fun l hl => by rw [I.seqK_inj hl hqx]; exact hx, fun l hl => by rw [I.seqK_inj hl hqy]; exact hy⟩, ⟨z'', ?_, ⟨w1, w2, ?_⟩, ?_, ?_⟩, fun c hcm => ?_⟩
    · exact (sb.2 _ S.TIz).trans (hk _ _ S.TIz S.TITO S.TIi1 S.TIi2 hTI)
    · exact (sb.2 _ S.TOz).trans TO'
    · exact g1.1.at fun o q => (sb.2 _ S.zi1.symm).trans q
    · exact g2.1.at fun o q => (sb.2 _ S.zi2.symm).trans q
    · have hlt : c < s.heap.objs.size := by
        have e' : c = N + 4 ∨ c = N + 2 ∨ c = N + 3 ∨ c = N ∨ c = N + 1 := by simpa using hcm
        exact lt5 hzl e'
      rw [upd_ne (Nat.ne_of_lt hlt)]
      exact (hf c hcm).1
  done := by
    intro X hP hw hK hc i pins s σ H E I hf st hg
    subst hP hw hK
    have S := sep_k ha hb
    obtain ⟨hz, hTI, ⟨x0, y0, hTO⟩, h1, h2⟩ := st
    obtain ⟨xs, ys, hqx, hqy, l1, l2⟩ := hg
    obtain ⟨its, rv, p⟩ := I.seqK hqx
    obtain ⟨its2, rv2, p2⟩ := I.seqK hqy
    have e1 := rv.length
    have e2 := rv2.length
    have hd : X.A.in1.handled = none := I.ok.hd hc
    have f1 : its.toArray.size = i := by simp; omega
    have f2 : its2.toArray.size = i := by simp; omega
    refine pyNext_zipS_end (I.ok.hd hc) S (draws_k k1 hd N a (Nat.ne_of_lt ha) its.toArray) (draws_k k2 hd (N + 1) b (ne_succ hb) its2.toArray) hz hTI hTO ⟨by rw [f1]; exact h1, p⟩ ⟨by rw [f2]; exact h2, p2⟩ fun h' tk hk => ⟨rfl, ?_⟩
    exact I.turnedL (t' := tk) (ch := [N + 4, N + 2, N + 3, N, N + 1]) (fun c o hb q =>
      hk c o (fun q' => hb (by simp [q'])) (fun q' => hb (by simp [q'])) (fun q' => hb (by simp [q'])) (fun q' => hb (by simp [q'])) q) hf
  self := fun A i s Q E st h => pyIter_zipS st.1 h
def iZipS (K : PySem.W.Frag) (ta : TA) : TI := fun σ H R => ta σ H fun vs H1 => ∃ k1 k2 a b xs ys, vs = [.ref a, .ref b] ∧ SqK K k1 H1 a xs ∧ SqK K k2 H1 b ys ∧ R (ItzS K k1 k2 a b) H1
theorem SeqK.lt {k : Bool} {h : Heap} {a : Addr} {its : Array Value} (x : SeqK k h a its) : a < h.objs.size := by
  cases k with
  | true =>
    obtain ⟨o, e, _⟩ := x
    exact Heap.lt_size e
  | false =>
    obtain ⟨o, e, _⟩ := x
    exact Heap.lt_size e
theorem pi_zipS {X : Cx} {e e2 : Expr} {j : Nat} {ta : TA} {p p3 p4 pos tpos : Pos} {elts : List Expr} {kk : Nat} (hg : Gl X "zip") (hm : X.mg "zip" = none) (ha : PA X [e, e2] ta)
    (he : backTo pos (starEach [e, e2] X.env) = (false, eval e X.env) :: backTo pos (starEach [e2] X.env) := by rfl) (hpl : (backTo pos (starEach [e, e2] X.env)).any (·.1) = false := by rfl)
    (hall : (backToKw pos (keywordEach [⟨some "strict", .Constant (.bool true) j p3, p4⟩] X.env)).all (·.1.isSome) = true := by rfl) (hnone : (backToKw pos (keywordEach [⟨some "strict", .Constant (.bool true) j p3, p4⟩] X.env)).any (·.1.isNone) = false := by rfl)
    (hks : (backToKw pos (keywordEach [⟨some "strict", .Constant (.bool true) j p3, p4⟩] X.env)).filterMap (·.1) = [("strict" : Str)] := by rfl) :
    PI X (.Tuple elts kk tpos) (.Call (.Name "zip" p) [e, e2] [⟨some "strict", .Constant (.bool true) j p3, p4⟩] pos) (iZipS X.K ta) := by
  refine ⟨fun pins s σ H R I h => ?_⟩
  refine wpAny_Call_Name_kw (ld_blt I hg hm PyProof.Rows.boot_zip ?_)
  refine callWith_type_kw (thn (ha.run pos pins s σ H _ I h) fun us s1 ⟨vs, H1, I1, r1, q1⟩ => thn ((pk_cons (pe_bl (b := true)) pk_nil).run pos pins s1 σ H1 (fun zs H2 => zs = [.bl true] ∧ H2 = H1) I1 ⟨rfl, rfl⟩) fun ws s2 ⟨zs, H2, I2, r2, ez, eH⟩ => ?_) he hpl hall hnone
  subst ez eH
  rw [hks]
  obtain ⟨k1, k2, a, b, xs, ys, ex, hqx, hqy, q⟩ := q1
  subst ex
  cases r1 with
  | cons r rr =>
    cases rr with
    | cons r' rr =>
      cases rr
      cases r
      cases r'
      cases r2 with
      | cons rz rr =>
        cases rr
        cases rz
        obtain ⟨its, rv, p1⟩ := I2.seqK hqx
        obtain ⟨its2, rv2, p2⟩ := I2.seqK hqy
        have fresh5 : ∀ c, c ∈ [s2.heap.objs.size + 4, s2.heap.objs.size + 2, s2.heap.objs.size + 3, s2.heap.objs.size, s2.heap.objs.size + 1] → FpOk X pins H2 c := fun c hcm => by
          have e' : c = s2.heap.objs.size + 4 ∨ c = s2.heap.objs.size + 2 ∨ c = s2.heap.objs.size + 3 ∨ c = s2.heap.objs.size ∨ c = s2.heap.objs.size + 1 := by simpa using hcm
          have hle : s2.heap.objs.size ≤ c := ge5 e'
          exact I2.fpOk hle (I2.hok.fresh hle)
        refine zip_beginsS (begins_k k1 a its.toArray) (begins_k k2 b its2.toArray) p1 p2 fun h' hz hTI hTO g1 g2 hsz hk => pyIter_zipS hz ?_
        have I3 : Inv X pins σ H2 { s2 with heap := h' } := I2.kept (t' := s2.toks) hk
        exact ⟨s2.heap.objs.size + 4, [s2.heap.objs.size + 4, s2.heap.objs.size + 2, s2.heap.objs.size + 3, s2.heap.objs.size, s2.heap.objs.size + 1], _, _, H2, rfl, I3, turn_zipS p1.lt p2.lt, ⟨hz, hTI, ⟨_, _, hTO⟩, ItK.new g1, ItK.new g2⟩, fresh5, q⟩
end L2
namespace DL
open PySem L2 PyProof.Rows
/-- pairs of two sequences of one length -/
def pairD : List Dv → List Dv → List Dv
  | x :: xs, y :: ys => .tup [x, y] :: pairD xs ys
  | _, _ => []
theorem pairD_len : ∀ {xs ys : List Dv}, xs.length = ys.length → (pairD xs ys).length = xs.length
  | [], [], _ => rfl
  | x :: xs, y :: ys, h => by
    show (pairD xs ys).length + 1 = xs.length + 1
    rw [pairD_len (Nat.succ.inj h)]
  | [], _ :: _, h => by cases h
  | _ :: _, [], h => by cases h
theorem pairD_get : ∀ {xs ys : List Dv} {i : Nat} {d : Dv}, (pairD xs ys)[i]? = some d → ∃ x y, xs[i]? = some x ∧ ys[i]? = some y ∧ d = .tup [x, y]
  | [], _, _, _, h => by simp [pairD] at h
  | _ :: _, [], _, _, h => by simp [pairD] at h
  | x :: xs, y :: ys, 0, d, h => by
    simp [pairD] at h
    exact ⟨x, y, rfl, rfl, h.symm⟩
  | x :: xs, y :: ys, i + 1, d, h => by
    have h' : (pairD xs ys)[i]? = some d := by simpa [pairD] using h
    obtain ⟨a, b, h1, h2, h3⟩ := pairD_get h'
    exact ⟨a, b, by simpa using h1, by simpa using h2, h3⟩
def asSeqF (env : DEnv) (x : RV) : Option (List Dv × DEnv) := (frz env x).bind fun q => match q.1 with
  | .lst xs => some (xs, q.2)
  | .tup xs => some (xs, q.2)
  | _ => none
def fZipS (fa : AF) : IF := fun env => (fa env).bind fun p => match p.1 with
  | [x, y] => (asSeqF p.2 x).bind fun q => (asSeqF q.2 y).bind fun r => if q.1.length = r.1.length then some (pairD q.1 r.1, r.2) else none
  | _ => none
theorem asSeqF_ok {K : PySem.W.Frag} {C : DC} {env env' : DEnv} {σ : L2.St} {H : Hp} {x : RV} {v : V} {xs : List Dv} (R : Rel C env σ H) (r : RVr C env σ H x v) (h : asSeqF env x = some (xs, env')) :
    Rel C env' σ H ∧ Sh env env' ∧ ∃ (k : Bool) (a : Addr) (vs : List V), v = .ref a ∧ ¬ MM C env' σ a ∧ H a = some (if k = true then .lst vs else .tup vs) ∧ Dats (MM C env' σ) H xs vs := by
  unfold asSeqF at h
  obtain ⟨⟨d, e1⟩, h1, h⟩ := Option.bind_eq_some_iff.mp h
  obtain ⟨R1, s1, d1⟩ := frz_ok R r h1
  simp only at h
  split at h
  · cases h
    unfold Dat at d1
    obtain ⟨a, vs, e, n, ha, hs⟩ := d1
    exact ⟨R1, s1, true, a, vs, e, n, ha, hs⟩
  · cases h
    unfold Dat at d1
    obtain ⟨a, vs, e, n, ha, hs⟩ := d1
    exact ⟨R1, s1, false, a, vs, e, n, ha, hs⟩
  · cases h
theorem sqK_of {K : PySem.W.Frag} {k : Bool} {H : Hp} {a : Addr} {vs : List V} (h : H a = some (if k = true then .lst vs else .tup vs)) : SqK K k H a vs := by
  cases k with
  | true => exact SqL.of h
  | false => exact SqT.of h
theorem ri_zipS {K : PySem.W.Frag} {ta : TA} {fa : AF} (ha : RA ta fa) : RI (iZipS K ta) (fZipS fa) := fun C env σ H R ds env' h Re k => by
  unfold fZipS at h
  obtain ⟨⟨rs, e1⟩, h1, h⟩ := Option.bind_eq_some_iff.mp h
  refine ha C env σ H _ rs e1 h1 Re fun vs H1 R1 s1 g1 r1 => ?_
  match rs, h with
  | [x, y], h =>
    obtain ⟨⟨xs, e2⟩, h2, h⟩ := Option.bind_eq_some_iff.mp h
    obtain ⟨⟨ys, e3⟩, h3, h⟩ := Option.bind_eq_some_iff.mp h
    split at h
    case isFalse => cases h
    rename_i hl
    cases h
    obtain ⟨v, w, rfl, q1, q2⟩ := rvs2 r1
    obtain ⟨R2, s2, k1, a, us, rfl, na, ea, da⟩ := asSeqF_ok (K := K) R1 q1 h2
    obtain ⟨R3, s3, k2, b, ws, rfl, nb, eb, db⟩ := asSeqF_ok (K := K) R2 (q2.step s2 (Grow.refl _ _ _)) h3
    have da' := (Grow.refl _ _ H1).dats s3 da
    have na' : ¬ MM C e3 σ a := fun z => na (s3.mm z)
    refine ⟨k1, k2, a, b, us, ws, rfl, sqK_of ea, sqK_of eb, k _ H1 R3 ((s1.trans s2).trans s3) g1 ⟨?_⟩⟩
    rw [pairD_len hl]
    have l1 : us.length = xs.length := da'.length
    have l2 : ws.length = ys.length := db.length
    refine ⟨fun i H hi hg => ?_, fun H hg => ?_, fun i H z H' hi hg y => ?_⟩
    · have hl : xs.length = ys.length := hl
      have hi : i < xs.length := hi
      have i1 : i < us.length := by omega
      have i2 : i < ws.length := by omega
      exact ⟨us, ws, us[i], ws[i], sqK_of (hg a _ na' ea), sqK_of (hg b _ nb eb), List.getElem?_eq_getElem i1, List.getElem?_eq_getElem i2⟩
    · have hl : xs.length = ys.length := hl
      exact ⟨us, ws, sqK_of (hg a _ na' ea), sqK_of (hg b _ nb eb), l1, by rw [l2]; exact hl.symm⟩
    · obtain ⟨T, u, v, rfl, nT, rfl, f1, f2⟩ := y
      have g1 := f1 us (sqK_of (hg a _ na' ea))
      have g2 := f2 ws (sqK_of (hg b _ nb eb))
      refine ⟨fun a o q => by rw [upd_ne (ne_of_none q nT)]; exact q, fun M2 m n d hd => ?_⟩
      obtain ⟨x', y', z1, z2, rfl⟩ := pairD_get hd
      obtain ⟨u', y1, y2⟩ := da'.get z1
      obtain ⟨v', y3, y4⟩ := db.get z2
      rw [g1] at y1
      cases y1
      rw [g2] at y3
      cases y3
      have up : ∀ {d : Dv} {v : V}, Dat (MM C e3 σ) H1 d v → Dat M2 (upd H T (.tup [u, v])) d v → True := fun _ _ => True.intro
      have c1 : Dat M2 (upd H T (.tup [u, v])) x' u := y2.to (fun a o n q => by rw [upd_ne (ne_of_none (hg a o n q) nT)]; exact hg a o n q) m
      have c2 : Dat M2 (upd H T (.tup [u, v])) y' v := y4.to (fun a o n q => by rw [upd_ne (ne_of_none (hg a o n q) nT)]; exact hg a o n q) m
      unfold Dat
      exact ⟨T, [u, v], rfl, fun z => n T z nT, upd_same, .cons c1 (.cons c2 .nil)⟩
end DL

set_option Elab.async false
set_option linter.all false
set_option maxRecDepth 100000
set_option maxHeartbeats 4000000
namespace L2
open PySem PySem.Spec PyProof.Rows ZSt
/-- the two sequences as they stand at each turn, the items in new pairs -/
def ItzN (K : PySem.W.Frag) (k1 k2 : Bool) (a b : Addr) : It :=
  ⟨fun i H => ∃ (xs ys : List V) (x y : V), SqK K k1 H a xs ∧ SqK K k2 H b ys ∧ xs[i]? = some x ∧ ys[i]? = some y,
    fun i H v H' => ∃ T x y, v = .ref T ∧ H T = none ∧ H' = upd H T (.tup [x, y]) ∧ (∀ xs, SqK K k1 H a xs → xs[i]? = some x) ∧ ∀ ys, SqK K k2 H b ys → ys[i]? = some y,
    fun i H => ∃ xs ys : List V, SqK K k1 H a xs ∧ SqK K k2 H b ys ∧ i ≤ xs.length ∧ i ≤ ys.length ∧ (i = xs.length ∨ i = ys.length)⟩
theorem turn_zipN {P : Program} {w : World} {K : PySem.W.Frag} {elts : List Expr} {kk : Nat} {tpos : Pos} {k1 k2 : Bool} {a b N : Addr} (ha : a < N) (hb : b < N) :
    Turn P w K (.Tuple elts kk tpos) (ItzN K k1 k2 a b) [N + 4, N + 2, N + 3, N, N + 1] (N + 4) (fun i h => IsZip h (N + 4) (N + 2) (N + 3) .none ∧ IsTupOf2 h (N + 2) (.ref N) (.ref (N + 1)) ∧ (∃ x y, IsTupOf2 h (N + 3) x y) ∧ ItK k1 h N a i ∧ ItK k2 h (N + 1) b i) where
  mem := by simp
  obj := fun i h st c hc => by
    obtain ⟨hz, hTI, ⟨x, y, hTO⟩, h1, h2⟩ := st
    have e' : c = N + 4 ∨ c = N + 2 ∨ c = N + 3 ∨ c = N ∨ c = N + 1 := by simpa using hc
    rcases e' with q | q | q | q | q
    · rw [q]; exact ⟨_, hz, fun v q => nomatch q⟩
    · rw [q]; exact ⟨_, hTI, fun v q => nomatch q⟩
    · rw [q]; exact ⟨_, hTO, fun v q => nomatch q⟩
    · rw [q]; exact h1.obj
    · rw [q]; exact h2.obj
  keep := fun i h h' st k => by
    obtain ⟨hz, hTI, ⟨x, y, hTO⟩, h1, h2⟩ := st
    exact ⟨k _ (by simp) _ hz, k _ (by simp) _ hTI, ⟨x, y, k _ (by simp) _ hTO⟩, h1.at fun o q => k N (by simp) o q, h2.at fun o q => k (N + 1) (by simp) o q⟩
  item := by
    intro X hP hw hK hc i pins s σ H E I hf st hg
    subst hP hw hK
    have S := sep_k ha hb
    obtain ⟨hz, hTI, ⟨x0, y0, hTO⟩, h1, h2⟩ := st
    obtain ⟨xs, ys, x, y, hqx, hqy, hx, hy⟩ := hg
    obtain ⟨its, rv, p⟩ := I.seqK hqx
    obtain ⟨its2, rv2, p2⟩ := I.seqK hqy
    obtain ⟨u, hu, ru⟩ := rv.get hx
    obtain ⟨u2, hu2, ru2⟩ := rv2.get hy
    have hzl : N + 4 < s.heap.objs.size := Heap.lt_size hz
    have hi1 : i < its.toArray.size := by
      have := (List.getElem?_eq_some_iff.mp hu).1
      simpa using this
    have hi2 : i < its2.toArray.size := by
      have := (List.getElem?_eq_some_iff.mp hu2).1
      simpa using this
    have hd : X.A.in1.handled = none := I.ok.hd hc
    refine wpAny_pyNext_zipD2_item S (draws_k k1 hd N a (Nat.ne_of_lt ha) its.toArray) (draws_k k2 hd (N + 1) b (ne_succ hb) its2.toArray) hz hTI hTO ⟨h1, p⟩ ⟨h2, p2⟩ hi1 hi2 fun w1 w2 h' tk z1 z2 z' TO' g1 g2 hT hsz hk => ?_
    have e1 : w1 = u := by
      have q : its[i]? = some w1 := by simpa using z1
      rw [hu] at q
      exact (Option.some.inj q).symm
    have e2 : w2 = u2 := by
      have q : its2[i]? = some w2 := by simpa using z2
      rw [hu2] at q
      exact (Option.some.inj q).symm
    subst e1 e2
    refine ⟨_, rfl, wpAny_letOwnedTupleGo_zip (s := { s with heap := h', toks := tk }) z' fun h'' z'' sb => ?_⟩
    have hT2 : h''.get? s.heap.objs.size = some { cls := .type "tuple", data := .seq #[w1, w2] } := (sb.2 _ (Nat.ne_of_gt hzl)).trans hT
    have new : ObjOk X.prog X.w (upd H s.heap.objs.size (.tup [x, y])) h'' s.heap.objs.size (.tup [x, y]) :=
      ⟨by show 2 ≤ sizeLine; decide, [w1, w2], .cons ru (.cons ru2 .nil), ⟨_, hT2, rfl, _, rfl⟩⟩
    have I1 : Inv X pins σ (upd H s.heap.objs.size (.tup [x, y])) { s with heap := h'', toks := tk } :=
      I.turnedNew (t' := tk) (ch := [N + 4, N + 2, N + 3, N, N + 1]) (fun c o hb q => (sb.2 c (fun q' => hb (by simp [q']))).trans (hk c o (fun q' => hb (by simp [q'])) (fun q' => hb (by simp [q'])) (fun q' => hb (by simp [q'])) (fun q' => hb (by simp [q'])) q)) hf (Nat.le_refl _) new
    refine ⟨.ref s.heap.objs.size, _, I1, rfl, ⟨_, x, y, rfl, I.hok.fresh (Nat.le_refl _), rfl, fun l hl => by rw [I.seqK_inj hl hqx]; exact hx, fun l hl => by rw [I.seqK_inj hl hqy]; exact hy⟩, ⟨z'', ?_, ⟨w1, w2, ?_⟩, ?_, ?_⟩, fun c hcm => ?_⟩
    · exact (sb.2 _ S.TIz).trans (hk _ _ S.TIz S.TITO S.TIi1 S.TIi2 hTI)
    · exact (sb.2 _ S.TOz).trans TO'
    · exact g1.1.at fun o q => (sb.2 _ S.zi1.symm).trans q
    · exact g2.1.at fun o q => (sb.2 _ S.zi2.symm).trans q
    · have hlt : c < s.heap.objs.size := by
        have e' : c = N + 4 ∨ c = N + 2 ∨ c = N + 3 ∨ c = N ∨ c = N + 1 := by simpa using hcm
        exact lt5 hzl e'
      rw [upd_ne (Nat.ne_of_lt hlt)]
      exact (hf c hcm).1
  done := by
    intro X hP hw hK hc i pins s σ H E I hf st hg
    subst hP hw hK
    have S := sep_k ha hb
    obtain ⟨hz, hTI, ⟨x0, y0, hTO⟩, h1, h2⟩ := st
    obtain ⟨xs, ys, hqx, hqy, l1, l2, l3⟩ := hg
    obtain ⟨its, rv, p⟩ := I.seqK hqx
    obtain ⟨its2, rv2, p2⟩ := I.seqK hqy
    have e1 := rv.length
    have e2 := rv2.length
    have hd : X.A.in1.handled = none := I.ok.hd hc
    have f1 : i ≤ its.toArray.size := by simp; omega
    have f2 : i ≤ its2.toArray.size := by simp; omega
    have f3 : i = its.toArray.size ∨ i = its2.toArray.size := by simp; omega
    refine wpAny_pyNext_zipD2_end S (draws_k k1 hd N a (Nat.ne_of_lt ha) its.toArray) (draws_k k2 hd (N + 1) b (ne_succ hb) its2.toArray) hz hTI hTO ⟨h1, p⟩ ⟨h2, p2⟩ f1 f2 f3 fun h' tk hk => ⟨rfl, ?_⟩
    exact I.turnedL (t' := tk) (ch := [N + 4, N + 2, N + 3, N, N + 1]) (fun c o hb q =>
      hk c o (fun q' => hb (by simp [q'])) (fun q' => hb (by simp [q'])) (fun q' => hb (by simp [q'])) (fun q' => hb (by simp [q'])) q) hf
  self := fun A i s Q E st h => wpAny_pyIter_zip st.1 h
def iZipN (K : PySem.W.Frag) (ta : TA) : TI := fun σ H R => ta σ H fun vs H1 => ∃ k1 k2 a b xs ys, vs = [.ref a, .ref b] ∧ SqK K k1 H1 a xs ∧ SqK K k2 H1 b ys ∧ R (ItzN K k1 k2 a b) H1
theorem pi_zipN {X : Cx} {e e2 : Expr} {ta : TA} {p pos tpos : Pos} {elts : List Expr} {kk : Nat} (hg : Gl X "zip") (hm : X.mg "zip" = none) (ha : PA X [e, e2] ta)
    (hs : starEach [e, e2] X.env = (false, eval e X.env) :: starEach [e2] X.env := by rfl) (hpl : (backTo pos (starEach [e2] X.env)).any (·.1) = false := by rfl) :
    PI X (.Tuple elts kk tpos) (.Call (.Name "zip" p) [e, e2] [] pos) (iZipN X.K ta) := by
  refine ⟨fun pins s σ H R I h => ?_⟩
  refine Call_ (ld_blt I hg hm PyProof.Rows.boot_zip (PyProof.Rows.callWith_type1 (thn (ha.run pos pins s σ H _ I h) fun us s2 ⟨vs, H2, I2, r1, q1⟩ => ?_) hs hpl))
  obtain ⟨k1, k2, a, b, xs, ys, ex, hqx, hqy, q⟩ := q1
  subst ex
  cases r1 with
  | cons r rr =>
    cases rr with
    | cons r' rr =>
      cases rr
      cases r
      cases r'
      obtain ⟨its, rv, p1⟩ := I2.seqK hqx
      obtain ⟨its2, rv2, p2⟩ := I2.seqK hqy
      have fresh5 : ∀ c, c ∈ [s2.heap.objs.size + 4, s2.heap.objs.size + 2, s2.heap.objs.size + 3, s2.heap.objs.size, s2.heap.objs.size + 1] → FpOk X pins H2 c := fun c hcm => by
        have e' : c = s2.heap.objs.size + 4 ∨ c = s2.heap.objs.size + 2 ∨ c = s2.heap.objs.size + 3 ∨ c = s2.heap.objs.size ∨ c = s2.heap.objs.size + 1 := by simpa using hcm
        have hle : s2.heap.objs.size ≤ c := ge5 e'
        exact I2.fpOk hle (I2.hok.fresh hle)
      refine zip_begins2 (begins_k k1 a its.toArray) (begins_k k2 b its2.toArray) p1 p2 fun h' hz hTI hTO g1 g2 hsz hk => wpAny_pyIter_zip hz ?_
      have I3 : Inv X pins σ H2 { s2 with heap := h' } := I2.kept (t' := s2.toks) hk
      exact ⟨s2.heap.objs.size + 4, [s2.heap.objs.size + 4, s2.heap.objs.size + 2, s2.heap.objs.size + 3, s2.heap.objs.size, s2.heap.objs.size + 1], _, _, H2, rfl, I3, turn_zipN p1.lt p2.lt, ⟨hz, hTI, ⟨_, _, hTO⟩, ItK.new g1, ItK.new g2⟩, fresh5, q⟩
end L2
namespace DL
open PySem L2 PyProof.Rows
theorem pairD_lenN : ∀ {xs ys : List Dv}, (pairD xs ys).length = min xs.length ys.length
  | [], [] => rfl
  | x :: xs, y :: ys => by
    show (pairD xs ys).length + 1 = min (xs.length + 1) (ys.length + 1)
    rw [pairD_lenN]
    omega
  | [], _ :: _ => by simp [pairD]
  | _ :: _, [] => by simp [pairD]
def fZipN (fa : AF) : IF := fun env => (fa env).bind fun p => match p.1 with
  | [x, y] => (asSeqF p.2 x).bind fun q => (asSeqF q.2 y).bind fun r => some (pairD q.1 r.1, r.2)
  | _ => none
theorem ri_zipN {K : PySem.W.Frag} {ta : TA} {fa : AF} (ha : RA ta fa) : RI (iZipN K ta) (fZipN fa) := fun C env σ H R ds env' h Re k => by
  unfold fZipN at h
  obtain ⟨⟨rs, e1⟩, h1, h⟩ := Option.bind_eq_some_iff.mp h
  refine ha C env σ H _ rs e1 h1 Re fun vs H1 R1 s1 g1 r1 => ?_
  match rs, h with
  | [x, y], h =>
    obtain ⟨⟨xs, e2⟩, h2, h⟩ := Option.bind_eq_some_iff.mp h
    obtain ⟨⟨ys, e3⟩, h3, h⟩ := Option.bind_eq_some_iff.mp h
    cases h
    obtain ⟨v, w, rfl, q1, q2⟩ := rvs2 r1
    obtain ⟨R2, s2, k1, a, us, rfl, na, ea, da⟩ := asSeqF_ok (K := K) R1 q1 h2
    obtain ⟨R3, s3, k2, b, ws, rfl, nb, eb, db⟩ := asSeqF_ok (K := K) R2 (q2.step s2 (Grow.refl _ _ _)) h3
    have da' := (Grow.refl _ _ H1).dats s3 da
    have na' : ¬ MM C e3 σ a := fun z => na (s3.mm z)
    refine ⟨k1, k2, a, b, us, ws, rfl, sqK_of ea, sqK_of eb, k _ H1 R3 ((s1.trans s2).trans s3) g1 ⟨?_⟩⟩
    rw [pairD_lenN]
    have l1 : us.length = xs.length := da'.length
    have l2 : ws.length = ys.length := db.length
    refine ⟨fun i H hi hg => ?_, fun H hg => ?_, fun i H z H' hi hg y => ?_⟩
    · have hi : i < min xs.length ys.length := hi
      have i1 : i < us.length := by omega
      have i2 : i < ws.length := by omega
      exact ⟨us, ws, us[i], ws[i], sqK_of (hg a _ na' ea), sqK_of (hg b _ nb eb), List.getElem?_eq_getElem i1, List.getElem?_eq_getElem i2⟩
    · refine ⟨us, ws, sqK_of (hg a _ na' ea), sqK_of (hg b _ nb eb), ?_, ?_, ?_⟩
      · show min xs.length ys.length ≤ us.length
        omega
      · show min xs.length ys.length ≤ ws.length
        omega
      · show min xs.length ys.length = us.length ∨ min xs.length ys.length = ws.length
        omega
    · obtain ⟨T, u, v, rfl, nT, rfl, f1, f2⟩ := y
      have g1 := f1 us (sqK_of (hg a _ na' ea))
      have g2 := f2 ws (sqK_of (hg b _ nb eb))
      refine ⟨fun a o q => by rw [upd_ne (ne_of_none q nT)]; exact q, fun M2 m n d hd => ?_⟩
      obtain ⟨x', y', z1, z2, rfl⟩ := pairD_get hd
      obtain ⟨u', y1, y2⟩ := da'.get z1
      obtain ⟨v', y3, y4⟩ := db.get z2
      rw [g1] at y1
      cases y1
      rw [g2] at y3
      cases y3
      have up : ∀ {d : Dv} {v : V}, Dat (MM C e3 σ) H1 d v → Dat M2 (upd H T (.tup [u, v])) d v → True := fun _ _ => True.intro
      have c1 : Dat M2 (upd H T (.tup [u, v])) x' u := y2.to (fun a o n q => by rw [upd_ne (ne_of_none (hg a o n q) nT)]; exact hg a o n q) m
      have c2 : Dat M2 (upd H T (.tup [u, v])) y' v := y4.to (fun a o n q => by rw [upd_ne (ne_of_none (hg a o n q) nT)]; exact hg a o n q) m
      unfold Dat
      exact ⟨T, [u, v], rfl, fun z => n T z nT, upd_same, .cons c1 (.cons c2 .nil)⟩

section
variable {X : Cx}
theorem callLen : CallR X (.builtin "len") (rLen X.K) := call_len
theorem callInt1 : CallR X (.type "int") rInt1 := call_int1
theorem callAbs : CallR X (.builtin "abs") (fun xs H Q => ∃ i, xs = [.int i] ∧ Q (.int (absI i)) H) := call_abs
theorem callMax2 (hc : X.calm = true) : CallR X (.builtin "max") (fun xs H Q => ∃ i j, xs = [.int i, .int j] ∧ Q (.int (maxI i j)) H) := call_max2 hc
theorem callMin2 (hc : X.calm = true) : CallR X (.builtin "min") (fun xs H Q => ∃ i j, xs = [.int i, .int j] ∧ Q (.int (minI i j)) H) := call_min2 hc
theorem callListOf : CallR X (.type "list") (rListOf X.K) := call_list_of
theorem callTupOf : CallR X (.type "tuple") (rTupOf X.K) := call_tuple_of
end
def tYesF : TF := fun env => some (true, env)
theorem rt_yes : RT tYes tYesF := fun C env σ H Q b env' h R k => by
  cases h
  exact k H R (Sh.refl _) (Grow.refl _ _ _)
def fBits (fa : EF) : EF := fun env => (fa env).bind fun p => (asI p.2 p.1).map fun i => (.d (.int (Builtin.Int.intBits i : Nat)), p.2)
theorem re_bits {ta : TE} {fa : EF} (ha : RE ta fa) : RE (tBits ta) (fBits fa) := fun C env σ H Q rv env' h R k => by
  unfold fBits at h
  obtain ⟨⟨x, e1⟩, h1, h⟩ := Option.bind_eq_some_iff.mp h
  obtain ⟨i, h3, h⟩ := Option.map_eq_some_iff.mp h
  cases h
  exact ha C env σ H _ x e1 h1 R fun vx H1 R1 s1 g1 r1 => ⟨i, asI_ok R1 r1 h3, k _ H1 R1 s1 g1 (show Dat (MM C e1 σ) H1 (.int _) _ by unfold Dat; rfl)⟩
def lLst (fa : AF) : LF := fun env => (fa env).bind fun p => (frzs p.2 p.1).bind fun q => if q.1.length ≤ szL then some (q.1, q.2) else none
def lListOf (fa : EF) : LF := fun env => (fa env).bind fun p => (asSeq p.2 p.1).map fun xs => (xs, p.2)
theorem rl_listOf {K : PySem.W.Frag} {ta : TE} {fa : EF} (ha : RE ta fa) : RL (tCB (rListOf K) (tCons ta tNil)) (lListOf fa) := fun C env σ H Q xs env' h R k => by
  unfold lListOf at h
  obtain ⟨⟨x, e1⟩, h1, h⟩ := Option.bind_eq_some_iff.mp h
  obtain ⟨ys, h3, h⟩ := Option.map_eq_some_iff.mp h
  cases h
  refine ha C env σ H _ x e1 h1 R fun v H1 R1 s1 g1 r1 => ?_
  obtain ⟨a, vs, rfl, hs, hd⟩ := asSeq_ok (K := K) R1 r1 h3
  refine ⟨a, vs, rfl, hs, fun p np => ?_⟩
  refine k p vs _ (fun d v q => (dat_plus s1 g1 np q).to (fun a u _ q => by rw [upd_ne (ne_of_none q np)]; exact q) fun _ z => .inl z) (R1.h0 np) (fun z => R1.mem p z np) (R1.plus np _) s1 (g1.trans s1 (Grow.new np)) upd_same ?_
  exact Dats.to (fun a u _ q => by rw [upd_ne (ne_of_none q np)]; exact q) (fun a z => by
    rcases z with (z | z) | z
    · exact .inl (.inl z)
    · exact .inr (z ▸ np)
    · exact .inl (.inr z)) _ _ hd
/-! ### str of a number, of a tuple of numbers (some text) -/
def rStrX (K : PySem.W.Frag) : List V → Hp → VK → Prop := fun xs H Q => (∃ i, xs = [.int i] ∧ i.natAbs.log2 < 1920 ∧ Q (.str (toString i)) H) ∨
  ∃ (a : Addr) (ns : List Int), xs = [.ref a] ∧ SqT K H a (ns.map V.int) ∧ ns.length ≤ 100 ∧ (∀ i ∈ ns, 0 ≤ i ∧ i < 10 ^ 500) ∧ ∀ m : Str, Q (.str m) H
theorem pow_log2 {i : Int} (h0 : 0 ≤ i) (h : i < 10 ^ 500) : i.natAbs.log2 < 1920 := by
  refine PySem.Flt.log2_lt_of (by decide) ?_
  have e : (i.natAbs : Int) < 2 ^ 1920 := by
    have h2 : (10 : Int) ^ 500 < 2 ^ 1920 := by decide +kernel
    omega
  have e2 : ((2 ^ 1920 : Nat) : Int) = 2 ^ 1920 := by decide +kernel
  omega
theorem num_len {i : Int} (h0 : 0 ≤ i) (h : i < 10 ^ 500) : (Str.ofString (toString i)).length ≤ 500 := by
  obtain ⟨n, rfl⟩ := Int.eq_ofNat_of_zero_le h0
  rw [TL.len_tl, TL.tl_num]
  refine TL.numL_len (by decide) ?_
  have e2 : ((10 ^ 500 : Nat) : Int) = 10 ^ 500 := by decide +kernel
  omega
theorem repr_nums {prog : Program} {w : World} : ∀ {ns : List Int} {its : List Value}, Vals (ns.map V.int) its → (∀ i ∈ ns, 0 ≤ i ∧ i < 10 ^ 500) → ∃ ts, ReprAll prog w its ts ∧ piled ts ≤ 502 * ns.length
  | [], _, r, _ => by
    cases r
    exact ⟨[], .nil, by decide⟩
  | i :: ns, _, r, h => by
    cases r with
    | cons r1 r2 =>
      obtain ⟨t, rfl⟩ := r1
      obtain ⟨ts, h1, h2⟩ := repr_nums r2 fun j hj => h j (List.mem_cons_of_mem _ hj)
      have hi := h i List.mem_cons_self
      refine ⟨_, .cons (ReprIs.int t (pow_log2 hi.1 hi.2)) h1, ?_⟩
      have := num_len hi.1 hi.2
      rw [piled_cons, List.length_cons]
      omega
theorem callStr {X : Cx} (hu : X.A.units + 64 < cLine) : CallR X (.type "str") (rStrX X.K) := by
  intro pins s σ H xs us Q I r h
  rcases h with h | ⟨a, ns, rfl, hs, hl, hb, q⟩
  · exact call_str_int pins s σ H xs us Q I r h
  · obtain ⟨u, rfl, r1⟩ := vals1 r
    cases r1
    obtain ⟨its, rv, ⟨o, ho, hc, n, hd⟩, _⟩ := I.tuple hs
    refine callType_new F.called_str (by decide) (F.typeCall_str_1 _) (F.newCall_str_1 _) (fun obj => F.args_object_init_2 obj _) F.entry_str_new
      (meets_str_new (S := fun A' R s' => A'.units + 8 < cLine ∧ s'.heap.get? a = some o ∧ ∀ m u tk, R (.ok (.ret (.str m u))) { s' with toks := tk }) fun prog' w' A' R s' hh => ?_) ⟨by show X.A.units + 1 + 8 < cLine; omega, ho, fun m u tk => ⟨typeIs_str _ _ _, .str m, H, I.tok _, ⟨u, rfl⟩, q m⟩⟩
    obtain ⟨h0, h1, h2⟩ := hh
    obtain ⟨ts, g1, g2⟩ := repr_nums (prog := prog') (w := w') rv hb
    have hz := fmt_text ts
    have hsz : (tupleText ts).length + 5 ≤ sizeLine := by
      rw [sizeLine_eq]
      omega
    refine wpAny_strOf_slot rfl (by show A'.units + 1 + 1 < cLine; omega) ⟨o, h1, hc⟩ F.slot_tuple_str F.slot_tuple_repr ?_
    exact fmt_tuple_repr h1 hc hd g1 (by omega) fun m u tk _ => ⟨m, u, rfl, h2 m u tk⟩
def gStr (env : DEnv) (x : RV) : Option RV := match val env x with
  | some (.int i) => if i.natAbs.log2 < 1920 then some (.d (.str (toString i))) else none
  | some (.tup xs) => (intL xs).bind fun ns => if ns.length ≤ 100 ∧ (∀ i ∈ ns, 0 ≤ i ∧ i < 10 ^ 500) then some (.d .anyS) else none
  | _ => none
theorem rc_str {K : PySem.W.Frag} : RC (rStrX K) (g1 gStr) := rc_1 fun C env σ H Q x v z h R r k => by
  unfold gStr at h
  split at h
  · rename_i i e
    split at h
    · rename_i hi
      cases h
      rw [val_int R r e]
      exact .inl ⟨i, rfl, hi, fin_str R k⟩
    · cases h
  · rename_i xs e
    obtain ⟨ns, e2, h⟩ := Option.bind_eq_some_iff.mp h
    split at h
    · rename_i hb
      cases h
      obtain ⟨a, vs, rfl, na, ha, hs⟩ := val_tup R r e
      rw [intL_ok e2] at hs
      rw [hs.ints] at ha
      exact .inr ⟨a, ns, rfl, SqT.of ha, hb.1, hb.2, fun m => fin_ R k (by unfold Dat; exact ⟨m, rfl⟩)⟩
    · cases h
  · cases h
end DL

set_option Elab.async false
set_option linter.all false
set_option maxRecDepth 100000
set_option maxHeartbeats 4000000
namespace DL
open PySem L2 PyProof.Rows
/-! ### new lists handed on as a list to be changed -/
def RN (t : TE) (f : LF) : Prop := ∀ (C : DC) (env : DEnv) (σ : L2.St) (H : Hp) (Q : VK) (xs : List Dv) (env' : DEnv), f env = some (xs, env') → Rel C env σ H →
  (∀ p vs H', H p = none → (∀ d v, Dat (MM C env σ) H d v → Dat (MM (C.plus p) env' σ) H' d v) → C.H0 p = none → ¬ C.M0 p → Rel (C.plus p) env' σ H' → Sh env env' → Grow env σ H H' → H' p = some (.lst vs) → Dats (MM (C.plus p) env' σ) H' xs vs → Q (.ref p) H') → t σ H Q
theorem RN.rl {t : TE} {f : LF} (h : RN t f) : RL t f := fun C env σ H Q xs env' e R k => h C env σ H Q xs env' e R fun p vs H' _ => k p vs H'
section
variable {C : DC} {env env' : DEnv} {σ σ' : L2.St} {H H' : Hp} {p : Addr} {o : HO}
def bare (env : DEnv) : Bool := env.all fun s => match s with
  | .own _ _ => false
  | .ownD _ _ => false
  | _ => true
theorem bare_ok (h : bare env = true) {a : Addr} : ¬ W env σ a := fun ⟨i, b, xs, e, _⟩ => by
  have q := List.all_eq_true.mp h _ (List.mem_of_getElem? e)
  cases b <;> simp only [OK.slot] at q <;> cases q
def spL (n : Nat) (F : List Dv → Option (List Dv)) : Sp := fun vs H Q _ => ∃ (M : Addr → Prop) (ds xs : List Dv), F ds = some xs ∧ vs.length = n ∧ Dats M H ds vs ∧ (∀ a, M a → H a ≠ none) ∧
  ∀ p ws H', H p = none → H' p = some (.lst ws) → (∀ a o, H a = some o → H' a = some o) → Dats (fun a => M a ∨ a = p) H' xs ws → Q (.ref p) H'
theorem spL_len {n : Nat} {F : List Dv → Option (List Dv)} {vs : List V} {H : Hp} {Q : VK} {E : XK} (h : spL n F vs H Q E) : vs.length = n := by
  obtain ⟨_, _, _, _, h, _⟩ := h
  exact h
def RSL (t : TS) (f : LF) : Prop := ∀ (C : DC) (env : DEnv) (σ : L2.St) (H : Hp) (D : Ends) (xs : List Dv) (env' : DEnv), f env = some (xs, env') → Rel C env σ H →
  (∀ p ws σ' H', C.H0 p = none → Rel (C.plus p) env' σ' H' → H' p = some (.lst ws) → Dats (MM (C.plus p) env' σ') H' xs ws → D.rt (.ref p) H') → t D σ H
theorem rsl_ret {t : TE} {f : LF} (h : RL t f) : RSL (tRet t) f := fun C env σ H D xs env' e R k =>
  h C env σ H _ xs env' e R fun p ws H' _ h0 _ Rp _ _ hp hs => k p ws σ H' h0 Rp hp hs
def fThen (g : SF) (f : LF) : LF := fun env => (g env).bind fun o => match o with
  | .nx e => f e
  | _ => none
theorem rsl_seq {t u : TS} {g : SF} {f : LF} (h : RS t g) (hu : RSL u f) : RSL (tSeq t u) (fThen g f) := fun C env σ H D xs env' e R k => by
  unfold fThen at e
  obtain ⟨o, h1, e⟩ := Option.bind_eq_some_iff.mp e
  cases o with
  | nx e1 => exact h C env σ H _ _ h1 R fun σ1 H1 R1 => hu C e1 σ1 H1 D xs env' e R1 k
  | bk e1 => cases e
  | ct e1 => cases e
  | rt d e1 => cases e
def runL (n : Nat) (f : LF) (ds : List Dv) : Option (List Dv) := (f (ds.map .dat ++ List.replicate (n - ds.length) .non)).bind fun p => if bare p.2 = true then some p.1 else none
theorem body_okL {t : TS} {f : LF} {N ps : List Str} (hN : ps.length ≤ N.length) (hg : RSL t f) {vs : List V} {H : Hp} {Q : VK} {E : XK} (h : spL ps.length (runL N.length f) vs H Q E) :
    t { nx := fun _ H' => Q .non H', rt := Q } (L2.start N vs) H := by
  obtain ⟨M, ds, xs, hF, hl, hd, hm, q⟩ := h
  unfold runL at hF
  obtain ⟨⟨ys, e'⟩, ho, hF⟩ := Option.bind_eq_some_iff.mp hF
  split at hF
  case isFalse => cases hF
  rename_i hb
  cases hF
  have hlen : ds.length = ps.length := by rw [← hd.length, hl]
  have no : ∀ (i : Nat) (b : OK) xs, (ds.map Slot.dat ++ List.replicate (N.length - ds.length) Slot.non)[i]? ≠ some (b.slot xs) := fun i b xs z => by
    have z := pad_getK z
    obtain ⟨d, z1, _⟩ := map_dat_get z
    exact OK.nodat z1
  have R : Rel { M0 := M, H0 := H, io := none } (ds.map .dat ++ List.replicate (N.length - ds.length) .non) (L2.start N vs) H := by
    refine ⟨?_, fun i d z => ?_, fun i b xs z => (no i b xs z).elim, fun i b xs z => (no i b xs z).elim, fun i j b c xs zs a z1 z2 y1 y2 => (no i b xs z1).elim, fun i xs z => (no i (.lst true) xs z).elim, fun i a z => (by cases z), fun i b xs a _ z1 z2 => (no i b xs z1).elim, fun a o _ z => z, fun a z => hm a z, fun i d z => absurd (pad_get (by intro z; cases z) z) (nop_map i d)⟩
    · rw [List.length_append, List.length_replicate, List.length_map]
      unfold L2.start
      rw [List.length_append, List.length_map, List.length_replicate, hd.length]
    · obtain ⟨d', z1, z2⟩ := map_dat_get (pad_get (by intro z; cases z) z)
      cases z1
      obtain ⟨v, y1, y2⟩ := hd.get z2
      refine ⟨v, ?_, y2.to (fun _ _ _ q => q) fun a z => ?_⟩
      · rw [start_get, if_pos (List.getElem?_eq_some_iff.mp y1).1, y1]
        rfl
      · rcases z with z | ⟨i, b, xs, z1, _⟩
        · exact .inl z
        · exact (no i b xs z1).elim
  refine hg _ _ _ H _ _ e' ho R fun p ws σ' H' h0 Rp hp hs => ?_
  refine q p ws H' h0 hp (fun a o z => Rp.keep a o (fun i y => by cases y) z) (Dats.to (fun _ _ _ q => q) (fun a z => ?_) _ _ hs)
  exact .inl (.inl z)
def fNew (n : Nat) (F : List Dv → Option (List Dv)) (fa : AF) : LF := fun env => (fa env).bind fun p => (frzs p.2 p.1).bind fun q => if q.1.length = n ∧ bare env = true then (F q.1).map fun xs => (xs, q.2) else none
theorem rn_call {n : Nat} {F : List Dv → Option (List Dv)} {E : XK} {ta : TA} {fa : AF} (ha : RA ta fa) :
    RN (tCall (spL n F) [] E ta) (fNew n F fa) := fun C env σ H Q xs env' h R k => by
  unfold fNew at h
  obtain ⟨⟨rs, e1⟩, h1, h⟩ := Option.bind_eq_some_iff.mp h
  obtain ⟨⟨ds, e2⟩, h2, h⟩ := Option.bind_eq_some_iff.mp h
  split at h
  case isFalse => cases h
  rename_i hb
  obtain ⟨hn, hbr⟩ := hb
  obtain ⟨ys, h3, h⟩ := Option.map_eq_some_iff.mp h
  cases h
  refine ha C env σ H _ rs e1 h1 R fun vs H1 R1 s1 g1 r1 => ?_
  rw [List.append_nil]
  obtain ⟨R2, s2, d2⟩ := frzs_ok R1 r1 h2
  refine ⟨MM C e2 σ, ds, _, h3, by rw [d2.length]; exact hn, d2, fun a q => R2.memM a q, fun p ws H' np hp keep hs => ?_⟩
  have np0 : H p = none := by
    cases e : H p with
    | none => rfl
    | some o =>
      rw [g1 p o (bare_ok hbr) e] at np
      cases np
  have kp : ∀ a o, (upd H1 p (.lst ws)) a = some o → H' a = some o := fun a o q => by
    by_cases z : a = p
    · subst z
      rw [upd_same] at q
      rw [hp, q]
    · rw [upd_ne z] at q
      exact keep a o q
  have R3 := (R2.plus np (.lst ws)).grow kp
  refine k p ws H' np0 (fun d v q => (dat_plus (s1.trans s2) (g1.trans s1 (Grow.refl _ _ _)) np q).to (fun a u _ q => keep a u q) fun _ z => .inl z) (R2.h0 np) (fun z => R2.mem p z np) R3 (s1.trans s2) (g1.trans s1 fun a o _ q => keep a o q) hp ?_
  refine Dats.to (fun _ _ _ q => q) (fun a z => .inl ?_) _ _ hs
  rcases z with (z | z) | z
  · exact .inl (.inl z)
  · exact .inr z
  · exact .inl (.inr z)
def fCallN (n : Nat) (F : FnF) (fl : LF) (fa : AF) : EF := fun env => (fl env).bind fun p => (fa p.2).bind fun q => (frzs q.2 q.1).bind fun z => if z.1.length + 1 = n then (F (.own true p.1 :: z.1.map .dat)).map fun r => (.d r.1, z.2) else none
theorem re_callN {n : Nat} {F : FnF} {E : XK} {tl : TE} {fl : LF} {ta : TA} {fa : AF} (hl : RN tl fl) (ha : RA ta fa) : RE (tCall (spD n F) [] E (tCons tl ta)) (fCallN n F fl fa) := fun C env σ H Q rv env' h R k => by
  unfold fCallN at h
  obtain ⟨⟨xs, e1⟩, h1, h⟩ := Option.bind_eq_some_iff.mp h
  obtain ⟨⟨rs, e2⟩, h2, h⟩ := Option.bind_eq_some_iff.mp h
  obtain ⟨⟨ds, e3⟩, h3, h⟩ := Option.bind_eq_some_iff.mp h
  split at h
  case isFalse => cases h
  rename_i hn
  obtain ⟨⟨r, ys⟩, h4, h⟩ := Option.map_eq_some_iff.mp h
  cases h
  refine hl C env σ H _ xs e1 h1 R fun p ws H1 np _ h0 hm R1 s1 g1 hp hs => ?_
  refine ha (C.plus p) e1 σ H1 _ rs e2 h2 R1 fun vs H2 R2 s2 g2 r2 => ?_
  show spD n F ((V.ref p :: vs) ++ []) H2 Q E
  rw [List.append_nil]
  obtain ⟨R3, s3, d3⟩ := frzs_ok R2 r2 h3
  have nw : ¬ W e1 σ p := R1.notW hm R.hio
  have hp2 : H2 p = some (.lst ws) := g2 p _ nw hp
  have hs2 : Dats (MM (C.plus p) e3 σ) H2 xs ws := g2.dats (s2.trans s3) hs
  have ge : ∀ (m : Nat) s, (Slot.own true xs :: ds.map Slot.dat)[m]? = some s → (m = 0 ∧ s = .own true xs) ∨ ∃ c d, m = c + 1 ∧ s = .dat d ∧ ds[c]? = some d := fun m s q => by
    cases m with
    | zero => exact .inl ⟨rfl, (Option.some.inj q).symm⟩
    | succ c =>
      obtain ⟨d, z1, z2⟩ := map_dat_get (i := c) q
      exact .inr ⟨c, d, rfl, z1, z2⟩
  refine ⟨MM (C.plus p) e3 σ, some (0, p), _, r, ys, h4, by rw [List.length_cons, d3.length]; exact hn, ⟨?_, fun m d q => ?_, fun m c zs q => ?_, fun m a' q => ?_, fun a' q => R3.memM a' q, nop_own⟩, fun v H' keep hr hio => ?_⟩
  · rw [List.length_cons, List.length_cons, List.length_map, d3.length]
  · rcases ge m _ q with ⟨_, z⟩ | ⟨c, d', rfl, z1, z2⟩
    · cases z
    · cases z1
      exact d3.get z2
  · rcases ge m _ q with ⟨rfl, z⟩ | ⟨c', d', rfl, z1, z2⟩
    · have e2 : c = .lst true ∧ zs = xs := by
        cases c <;> simp only [OK.slot, Slot.own.injEq, reduceCtorEq] at z
        exact ⟨by rw [z.1], z.2⟩
      obtain ⟨rfl, rfl⟩ := e2
      exact ⟨rfl, p, ws, rfl, rfl, hp2, hs2⟩
    · exact (OK.nodat z1).elim
  · cases q
    exact ⟨.inl (.inr rfl), rfl, xs, rfl⟩
  · obtain ⟨us, y1, y2⟩ := hio 0 p rfl
    have kk : ∀ x o, x ≠ p → H2 x = some o → H' x = some o := fun x o n q => keep x o (fun i z => by cases z; exact n rfl) q
    have nw3 : ¬ W e3 σ p := fun z => nw ((s2.trans s3).w z)
    have R4 : Rel (C.plus p) e3 σ (upd H2 p (.lst us)) := R3.putD nw3 hm h0 ⟨_, hp2⟩
    have R5 : Rel (C.plus p) e3 σ H' := R4.grow fun a o q => by
      by_cases z : a = p
      · subst z
        rw [upd_same] at q
        rw [y1, q]
      · rw [upd_ne z] at q
        exact kk a o z q
    have R6 := R5.unplus R.hio
    have ss := s1.trans (s2.trans s3)
    refine k v H' R6 ss (fun x o n q => ?_) (hr.to (fun _ _ _ q => q) fun x z => .inl (mm_plus z))
    have nx : x ≠ p := fun z => by
      rw [z, np] at q
      cases q
    exact kk x o nx (g2 x o (fun z => n (s1.w z)) (g1 x o n q))
end
end DL

set_option Elab.async false
set_option linter.all false
set_option maxRecDepth 100000
set_option maxHeartbeats 4000000
namespace DL
open PySem L2 PyProof.Rows
/-! ### the cells of the script -/
def cellM (ns : List Int) (i : Int) : Int := if i < ns.length then (ns[i.toNat]?).getD 0 else ((ns.take 1).sum).fmod 1000003
def spCell (K : PySem.W.Frag) : Sp := fun vs H Q _ => ∃ (a : Addr) (i : Int) (ns : List Int), vs = [.ref a, .int i] ∧ 0 ≤ i ∧ SqL K H a (ns.map V.int) ∧ ∀ H', (∀ x o, H x = some o → H' x = some o) → Q (.int (cellM ns i)) H'
theorem cutV_01 (l : List V) : cutV l none (some 1) = l.take 1 := by
  unfold cutV
  rw [HT.sIx_none, List.drop_zero, Nat.sub_zero]
  have e : HT.sIx l.length l.length (some 1) = min 1 l.length := HT.sIx_nat _ _ 1
  rw [e]
  cases l with
  | nil => rfl
  | cons x l => rw [List.length_cons, Nat.min_eq_left (by omega)]
theorem spCell_len {K : PySem.W.Frag} {vs : List V} {H : Hp} {Q : VK} {E : XK} (h : spCell K vs H Q E) : vs.length = 2 := by
  obtain ⟨_, _, _, rfl, _⟩ := h
  rfl
theorem body_cell {K : PySem.W.Frag} {vs : List V} {H : Hp} {Q : VK} {E : XK} (h : spCell K vs H Q E) :
    (tSeq (tIfS (tTest (tOp (rCmpU ltI ltS) (tVar 1) (tCB (rLen K) (tCons (tVar 0) tNil)))) (tSeq (tRet (tOp (rIx K) (tVar 0) (tVar 1))) tNext) tNext)
      (tRet (tOp (rI (fun _ j => j ≠ 0) fun i j => .int (i.fmod j)) (tCB (rSum K) (tCons (tSl (rSlU K) (tVar 0) tNoPart (tPart (tC (.int 1)))) tNil)) (tC (.int 1000003)))))
      { nx := fun _ H' => Q .non H', rt := Q } (L2.start ["_law_script", "_law_index"] vs) H := by
  obtain ⟨a, i, ns, rfl, h0, hS, q⟩ := h
  refine ⟨.int i, rfl, .ref a, rfl, .ref a, ns.length, rfl, .inl ⟨_, hS, by rw [List.length_map]⟩, .inl ⟨i, ns.length, rfl, rfl, _, rfl, ?_⟩⟩
  by_cases hi : i < ns.length
  · have e : ltI i ns.length = true := decide_eq_true hi
    show (if ltI i ns.length = true then _ else _)
    rw [if_pos e]
    have e1 : cellM ns i = ns[i.toNat]'(by omega) := by
      unfold cellM
      rw [if_pos hi, List.getElem?_eq_getElem (by omega)]
      rfl
    refine ⟨.ref a, rfl, .int i, rfl, .inl ⟨a, _, i, .int (cellM ns i), rfl, rfl, hS, ?_, q H fun _ _ z => z⟩⟩
    unfold atI ixN
    rw [if_pos h0, if_pos (by rw [List.length_map]; exact hi), Option.bind_some, List.getElem?_map, List.getElem?_eq_getElem (by omega), e1]
    rfl
  · have e : ltI i ns.length = false := decide_eq_false hi
    show (if ltI i ns.length = true then _ else _)
    rw [if_neg (by rw [e]; simp)]
    have e1 : cellM ns i = ((ns.take 1).sum).fmod 1000003 := by
      unfold cellM
      rw [if_neg hi]
    refine ⟨.ref a, rfl, 1, rfl, .inl ⟨a, _, rfl, hS, fun p np => ?_⟩⟩
    refine ⟨p, ns.take 1, rfl, .inl (.inl ?_), _, _, rfl, rfl, (show (1000003 : Int) ≠ 0 by decide), ?_⟩
    · rw [upd_same, cutV_01, List.map_take]
    · have := q (upd H p (.lst (cutV (ns.map V.int) none (some 1)))) fun x o z => by
        rw [upd_ne (fun w => by rw [w, np] at z; cases z)]
        exact z
      rw [e1] at this
      exact this
open Classical in
noncomputable def fCell (K : PySem.W.Frag) (i j : Nat) : EF := fun env => match env[i]?, env[j]? with
  | some (.dat (.scr K' ns)), some (.dat (.int n)) => if K' = K ∧ 0 ≤ n then some (.d (.int (cellM ns n)), env) else none
  | _, _ => none
theorem re_cell {K : PySem.W.Frag} {E : XK} {i j : Nat} : RE (tCall (spCell K) [] E (tCons (tVar i) (tCons (tVar j) tNil))) (fCell K i j) := fun C env σ H Q rv env' h R k => by
  unfold fCell at h
  split at h
  case h_2 => cases h
  rename_i K' ns n h1 h2
  split at h
  case isFalse => cases h
  rename_i hc
  obtain ⟨rfl, h0⟩ := hc
  cases h
  obtain ⟨v, z1, z2⟩ := R.dat i _ h1
  obtain ⟨u, y1, y2⟩ := R.dat j _ h2
  unfold Dat at z2 y2
  obtain ⟨a, rfl, z2⟩ := z2
  subst y2
  refine ⟨_, z1, _, y1, a, n, ns, rfl, h0, ?_, fun H' keep => k _ H' (R.grow keep) (Sh.refl _) (fun a o _ z => keep a o z) (show Dat (MM C env σ) H' (.int _) _ by unfold Dat; rfl)⟩
  rcases z2 with ⟨_, z⟩ | z
  · exact .inl z
  · exact z H
theorem sp_law {K : PySem.W.Frag} {F : FnF} {H : Hp} {a : Addr} {ns : List Int} (hF : F [.dat (.scr K ns)] = some (.bl true, [])) (hO : Only H) (hS : SqL K H a (ns.map V.int)) : spD 1 F [.ref a] H (fun v _ => v = .bl true) fun _ _ _ => False := by
  refine ⟨fun _ => False, none, _, _, _, hF, rfl, ⟨rfl, fun i d e => ?_, fun i b xs e => ?_, fun i b e => (by cases e), fun a z => z.elim, nop_map (ds := [.scr K ns])⟩, fun v H' _ hd _ => ?_⟩
  · cases i with
    | zero =>
      cases e
      refine ⟨_, rfl, ?_⟩
      unfold Dat
      refine ⟨a, rfl, ?_⟩
      rcases hS with h | h
      · exact .inl ⟨fun z => z, h⟩
      · exact .inr fun _ => .inr h
    | succ i => cases e
  · cases i with
    | zero => exact (OK.nodat (Option.some.inj e).symm).elim
    | succ i => cases e
  · unfold Dat at hd
    exact hd
end DL

set_option Elab.async false
set_option linter.all false
set_option maxRecDepth 100000
set_option maxHeartbeats 4000000
/-! Defs called where no repr is under way (guards empty), by promises that also tell what is raised. -/
namespace DG
open PySem L2 PySem.Spec PyProof.Rows
structure FnG (P : Program) (w : World) (K : PySem.W.Frag) (mg : Str → Option Value) (base : Heap) (C : CXT) (k : Nat) (f : Addr) (fd : FuncData) (ps : List Str) (sp : Sp) : Prop where
  len : ∀ vs H Q E, sp vs H Q E → vs.length = ps.length
  run : ∀ (A : Around) (out : List Env) (s : Shared) (H : Hp) (ar : Args) (us : List Value) (vs : List V) (Q : VK) (E : XK), A.guards = some [] → Room k A → Env0 P w K mg base A out s H → BindsTo s fd ar (ps.zip us) → Vals vs us → sp vs H Q E →
    codeAny (model P w) A (.call (.ref f) ar) (CR C out P w H s Q E) s
theorem guards_deeper {A : Around} {e : Env} : (A.deeper e).guards = A.guards := by
  first | rfl | simp [Around.deeper]
section
variable {X : Cx} {C : CXT} {k : Nat} {f : Addr} {fd : FuncData} {ps : List Str} {sp : Sp} {dvs : List V} {ds : List Value} {E : XK} {n : Str} {po ps' : Pos} {e : Expr} {es : List Expr} {t : TA}
theorem run_g {pins : List (Addr × Obj)} {σ : L2.St} {H : Hp} {s : Shared} {Q : VK} {us : List Value} {vs : List V} (F : FnG X.prog X.w X.K X.mg X.base C k f fd ps sp) (g : X.A.guards = some []) (hr : Room k X.A) (bd : Binds X.K fd ps ds) (vd : Vals dvs ds)
    (px : Passes C X E) (I : Inv X pins σ H s) (rv : Vals vs us) (want : sp (vs ++ dvs) H Q E) : wpAny (model X.prog X.w) X.A (call (.ref f) us) (EP X pins σ Q) X.xe s := by
  have rv' := rv.append vd
  have eqn : (us ++ ds).length = ps.length := rv'.length ▸ F.len _ _ _ _ want
  apply wpAny_call
  apply codeAny_mono (F.run X.A X.stack s H ⟨us, []⟩ _ _ Q E g hr I.env0 (bd s us I.kIn eqn) rv' want)
  intro res s₂ h
  match res, h with
  | .error x, h => exact px pins σ H s x s₂ I h
  | .ok (.ret x), h => exact I.after h
  | .ok .next, h => cases h
  | .ok .brk, h => cases h
  | .ok .cont, h => cases h
theorem call_g (F : FnG X.prog X.w X.K X.mg X.base C k f fd ps sp) (g : X.A.guards = some []) (hr : Room k X.A) (gl : Gl X n) (m : X.mg n = some (.ref f)) (kp : PySem.W.keepIn X.K (.ref f) = true) (bd : Binds X.K fd ps ds) (vd : Vals dvs ds) (px : Passes C X E)
    (as : PA X (e :: es) t) (nd : (n == ("__debug__" : Str)) = false := by decide) (h1 : starEach (e :: es) X.env = (false, eval e X.env) :: starEach es X.env := by rfl) (h2 : (backTo po (starEach es X.env)).any (·.1) = false := by rfl) :
    PE X (.Call (.Name n ps') (e :: es) [] po) (tCall sp dvs E t) := ⟨fun pins s σ H Q I h =>
  wpAny_Call_Name_kw (ld_glob I gl m (PySem.W.callWith_K (h₀ := X.base) I.ok.mod.kin kp (thn (as.run po pins s σ H _ I h) fun _ _ ⟨_, _, J, rv, q⟩ => ⟨J.kIn, run_g F g hr bd vd px J rv q⟩) h1 h2) nd)⟩
theorem call0_g (F : FnG X.prog X.w X.K X.mg X.base C k f fd ps sp) (g : X.A.guards = some []) (hr : Room k X.A) (gl : Gl X n) (m : X.mg n = some (.ref f)) (kp : PySem.W.keepIn X.K (.ref f) = true) (bd : Binds X.K fd ps ds) (vd : Vals dvs ds) (px : Passes C X E)
    (nd : (n == ("__debug__" : Str)) = false := by decide) : PE X (.Call (.Name n ps') [] [] po) (tCall sp dvs E tNil) := ⟨fun pins s σ H Q I h =>
  wpAny_Call_Name_kw (ld_glob I gl m (PySem.W.callWith_K0 I.kIn kp (run_g (us := []) F g hr bd vd px I .nil h)) nd)⟩
end
section
variable {C : CXT} {P : Program} {w : World} {K : PySem.W.Frag} {mg : Str → Option Value} {base : Heap}
/-- a def by its body -/
theorem body_g {x qual : Str} {st : Stmt} {f : Addr} {fd : FuncData} {N ps : List Str} {k : Nat} {sp : Sp} (F : Fun K x qual st f fd) (S : FnScope N ps (defScope st)) (len : ∀ vs H Q E, sp vs H Q E → vs.length = ps.length)
    (hb : ∀ (cdv : Value) (A : Around) (out : List Env) (s : Shared) (H : Hp) (vs : List V) (Q : VK) (E : XK), A.guards = some [] → Room k (A.deeper (envOfC qual (defScope st) s.heap.objs.size f cdv)) → sp vs H Q E →
      ∃ t, PSs (cxOf C P w K mg base N qual (defScope st) f cdv A out s H E) (defBody st) t ∧ t { nx := fun _ H' => Q .non H', rt := Q } (L2.start N vs) H) : FnG P w K mg base C (k + 1) f fd ps sp := by
  obtain ⟨oc, od, kV, doc, pm, an, cdv, ct, osl, rfl, lk, hcd⟩ := F.ex
  refine ⟨len, ?_⟩
  intro A out s H ar us vs Q E g hr e0 bt rv want
  have size := len _ _ _ _ want
  have old : ∀ b o, base.get? b = some o → s.heap.get? b = some o := fun b o z => (e0.bs b o z).1
  have inK : K.In s.heap := e0.mod.kin.keeps old
  have kinds : ∀ y ∈ ps.zip us, (defScope st).names.lookup y.1 = some .local ∨ ((defScope st).names.lookup y.1 = some .cell ∧ ((cellsFrom (s.heap.objs.size + 1) (defScope st).names []).lookup y.1).isSome = true) := by
    rintro ⟨n, v⟩ hy
    exact (S.par n (List.of_mem_zip hy).1).imp id fun z => ⟨z, PySem.W.cellsFrom_some _ _ _ (.inl z)⟩
  apply codeAny_call_function hr.depth (inK _ _ lk) rfl S.co S.gen rfl (PySem.W.codeRec_of inK hcd) (bt _ _ _ _ _)
  apply wpAny_newFunctionEnv_cells S.kind kinds
  intro env he s1 x
  subst he
  refine ⟨(e0.mod.nolimit.keeps old).keeps x.toInCall.keep, codeAny_func ?_⟩
  obtain ⟨t, ht, hq⟩ := hb cdv A out s H vs Q E g (hr.deeper _) want
  have I : Inv (cxOf C P w K mg base N qual (defScope st) f cdv A out s H E) [] (L2.start N vs) H s1 := inv_start S hr.hd e0 size rv x
  apply wpAny_mono (ht.run [] s1 (L2.start N vs) H _ I hq) _ fun _ _ z => z
  intro fl s2 h
  have ce : ∀ {τ : L2.St} {H' : Hp} {v : V} {u : Value}, Inv (cxOf C P w K mg base N qual (defScope st) f cdv A out s H E) [] τ H' s2 → RelV v u → Q v H' → CE out P w H s Q u s2 := fun J r q => ⟨_, _, J.os, J.bare, J.base, J.hok, r, q⟩
  match fl, h with
  | .ret u, ⟨v, τ, H', J, r, q⟩ => exact ce J r q
  | .next, ⟨τ, H', J, q⟩ => exact ce (v := V.non) (u := Value.none) J rfl q
  | .brk, ⟨_, _, _, q⟩ => cases q
  | .cont, ⟨_, _, _, q⟩ => cases q
/-- a def by its body, from which no exception is let out -/
theorem body0_g {x qual : Str} {st : Stmt} {f : Addr} {fd : FuncData} {N ps : List Str} {k : Nat} {sp : Sp} (F : Fun K x qual st f fd) (S : FnScope N ps (defScope st)) (len : ∀ vs H Q E, sp vs H Q E → vs.length = ps.length)
    (hb : ∀ (cdv : Value) (A : Around) (out : List Env) (s : Shared) (H : Hp) (vs : List V) (Q : VK) (E : XK), A.guards = some [] → Room k (A.deeper (envOfC qual (defScope st) s.heap.objs.size f cdv)) → sp vs H Q E →
      ∃ t, PSs (cxOf C P w K mg base N qual (defScope st) f cdv A out s H E).nox (defBody st) t ∧ t { nx := fun _ H' => Q .non H', rt := Q } (L2.start N vs) H) : FnG P w K mg base C (k + 1) f fd ps sp :=
  body_g F S len fun cdv A out s H vs Q E g r w => by
    obtain ⟨t, a, b⟩ := hb cdv A out s H vs Q E g r w
    exact ⟨t, a.nox, b⟩
end
/-! ### the end: the law's own call -/
section
variable {P : Program} {w : World} {K : PySem.W.Frag} {mg mb : Str → Option Value} {C : CXT} {k : Nat} {fa a : Addr} {fd : FuncData} {x : Str} {sp : Sp} {s : Shared} {vs : List Value} {ns : List Int}
def Done (s : Shared) (r : Result) (t : Shared) : Prop := r = .ok (.ret (.bool true)) ∧ OldK s.heap t.heap ∧ t.os = s.os ∧ AllBare t.gens
theorem law_core (H : Hp) (only : Only H) (seq : SqL K H a (ns.map V.int)) (ok : HOk P w H s.heap) (just : ∀ b, H b ≠ none → b = a) (free : H a ≠ none → K.lookup a = none)
    (kin : K.In s.heap) (gl : s.heap.Ns mainGlobals mg) (bl : s.heap.Ns builtinsNs mb) (bq : ∀ y : Str, y ≠ "__name__" → mb y = bootBuiltins y) (lim : s.heap.NoLimit) (gens : s.gens = #[])
    (obj : s.heap.get? a = some { cls := .type "list", data := .seq vs.toArray }) (room : Room k callerA)
    (F : ∀ base : Heap, K.In base → base.Ns mainGlobals mg → FnG P w K mg base C k fa fd [x] sp) (bind : ∀ (t : Shared) (u : Value), BindsTo t fd ⟨[u], []⟩ [(x, u)])
    (want : sp [.ref a] H (fun v _ => v = .bl true) fun _ _ _ => False) (noX : ∀ G e t, C [] G s (fun _ _ _ => False) e t → False) :
    codeAny (model P w) callerA (.call (.ref fa) ⟨[.ref a], []⟩) (Done s) s := by
  have away : ∀ {b : Addr} {o : Obj} {es : Array DictEntry} {ep : Nat}, s.heap.get? b = some o → o.data = .dict es ep → H b = none := by
    intro b o es ep e d
    refine Classical.byContradiction fun z => ?_
    obtain rfl := just b z
    rw [obj] at e
    obtain rfl := Option.some.inj e
    cases (d : Data.seq vs.toArray _ = Data.dict es ep)
  have names : ∀ {b : Addr} {m : Str → Option Value}, s.heap.Ns b m → (hidT s.heap H).Ns b m := by
    rintro b m ⟨o, es, ep, e, d, r⟩
    exact ⟨o, es, ep, hidT_get e (away e d), d, r⟩
  have kb : K.In (hidT s.heap H) := by
    intro b o e
    refine hidT_get (kin b o e) (Classical.byContradiction fun z => ?_)
    obtain rfl := just b z
    rw [free z] at e
    cases e
  obtain ⟨mc, c1, c2⟩ := lim
  have e0 : Env0 P w K mg (hidT s.heap H) callerA [] s H :=
    { frames := rfl, mod := ⟨kb, names gl, ⟨mb, names bl, bq⟩, ⟨mc, names c1, c2⟩⟩, bs := fun b o e => of_hidT e, bsz := Nat.le_of_eq (hidT_size _ _), funs := trivial, frf := (by intro b hb; cases hb), hok := ok, bare := .of_eq gens }
  apply codeAny_mono ((F _ kb (names gl)).run callerA [] s H ⟨[.ref a], []⟩ [.ref a] [.ref a] _ _ rfl room e0 (bind s (.ref a)) (.cons rfl .nil) want)
  intro r t h
  match r, h with
  | .error e, h => exact (noX H e t h).elim
  | .ok .next, h => cases h
  | .ok .brk, h => cases h
  | .ok .cont, h => cases h
  | .ok (.ret u), ⟨v, H', os, bare, un, ok', rel, tv⟩ =>
    obtain rfl : v = .bl true := tv
    obtain rfl : u = Value.bool true := rel
    refine ⟨rfl, OldK.of_keep ?_, os, bare⟩
    intro b o e
    cases z : H b with
    | none => exact un.keep b o e z (by intro q; cases q) (by simp)
    | some y =>
      rcases only b with q | ⟨ob, xs, q⟩
      · rw [z] at q
        cases q
      · have old := (ok b _ q).1
        rw [e] at old
        rw [Option.some.inj old]
        exact (ok' b _ (un.frzs b ob _ q)).1
theorem law_g (kin : K.In s.heap) (gl : s.heap.Ns mainGlobals mg) (bl : s.heap.Ns builtinsNs mb) (bq : ∀ y : Str, y ≠ "__name__" → mb y = bootBuiltins y) (lim : s.heap.NoLimit) (gens : s.gens = #[])
    (obj : s.heap.get? a = some { cls := .type "list", data := .seq vs.toArray }) (nums : IntsAre vs ns) (len : ns.length ≤ sizeLine) (room : Room k callerA)
    (F : ∀ base : Heap, K.In base → base.Ns mainGlobals mg → FnG P w K mg base C k fa fd [x] sp) (bind : ∀ (t : Shared) (u : Value), BindsTo t fd ⟨[u], []⟩ [(x, u)])
    (want : ∀ H : Hp, Only H → SqL K H a (ns.map V.int) → sp [.ref a] H (fun v _ => v = .bl true) fun _ _ _ => False) (noX : ∀ G e t, C [] G s (fun _ _ _ => False) e t → False) :
    codeAny (model P w) callerA (.call (.ref fa) ⟨[.ref a], []⟩) (Done s) s := by
  have vi := vals_ints nums
  cases look : K.lookup a with
  | some o =>
    have at_ := kin a o look
    rw [obj] at at_
    obtain rfl := Option.some.inj at_
    have sq : SqL K (fun _ => none) a (ns.map V.int) := .inr ⟨_, vs.toArray, _, look, rfl, rfl, rfl, by rw [List.size_toArray, nums.length]; exact len, by simpa using vi⟩
    have on : Only fun _ => none := fun _ => .inl rfl
    exact law_core _ on sq (fun b u z => by cases (z : (none : Option HO) = some u)) (fun b z => absurd rfl z) (fun z => absurd rfl z) kin gl bl bq lim gens obj room F bind (want _ on sq) noX
  | none =>
    let H : Hp := fun b => if b = a then some (.frz { cls := .type "list", data := .seq vs.toArray } (.lst (ns.map V.int))) else none
    have yes : H a = some (.frz { cls := .type "list", data := .seq vs.toArray } (.lst (ns.map V.int))) := if_pos rfl
    have no : ∀ b, b ≠ a → H b = none := fun b z => if_neg z
    have on : Only H := fun b => if z : b = a then .inr ⟨_, _, z ▸ yes⟩ else .inl (no b z)
    have sq : SqL K H a (ns.map V.int) := .inl (.inr ⟨_, yes⟩)
    refine law_core H on sq ?_ (fun b z => Classical.byContradiction fun q => z (no b q)) (fun _ => look) kin gl bl bq lim gens obj room F bind (want H on sq) noX
    intro b u z
    by_cases q : b = a
    · subst q
      rw [yes] at z
      obtain rfl := Option.some.inj z
      exact ⟨obj, by rw [List.length_map]; exact len, vs, _, vi, obj⟩
    · rw [no b q] at z
      cases z
end
theorem walk_g {l : PySem.W.OpenLaw} {n k : Nat} {q : Program} {loose : List Str} {XP : (Str → Option Value) → Heap → Prop} {YP : World → Heap → Prop} {d : DefRec} {K : Params → PySem.W.Frag} {CX : World → CXT} {sp : World → Sp} {x : Str}
    (hn : l.most = some n) (hn2 : n ≤ sizeLine) (hdf : d.params.defaults = []) (room : Room k callerA) (hY : ∀ (w : World) (h : Heap), YP w h → (K w.params).In h)
    (F : ∀ (w : World) (mg : Str → Option Value) (fa : Addr) (h : Heap), (K w.params).In h → h.Ns mainGlobals mg → mg d.name = some (.ref fa) →
      ∃ fd : FuncData, (∀ (s : Shared) (u : Value), BindsTo s fd ⟨[u], []⟩ [(x, u)]) ∧ ∀ base : Heap, (K w.params).In base → base.Ns mainGlobals mg → FnG l.prog w (K w.params) mg base (CX w) k fa fd [x] (sp w))
    (want : ∀ (w : World) (H : Hp) (a : Addr) (ns : List Int), ns.length ≤ n → Only H → SqL (K w.params) H a (ns.map V.int) → sp w [.ref a] H (fun v _ => v = .bl true) fun _ _ _ => False)
    (noX : ∀ (w : World) (G : Hp) (s : Shared) (e : Value) (t : Shared), CX w [] G s (fun _ _ _ => False) e t → False) :
    PySem.W.WalkO q loose XP YP l.row.toRowW d [] (fun f vs => PySem.call f vs) := by
  apply Att.attach_call hn hdf
  intro w s₀ s₁ mg mb fa o pm cd doc a vs ns G Y ho hd hcd hmg hobj hints hlen hg
  obtain ⟨fd, hb, hF⟩ := F w mg fa _ (hY w _ Y) G.T.g hmg
  exact law_g (hY w _ Y) G.T.g G.T.b G.T.builtins G.T.nolimit hg hobj hints (Nat.le_trans hlen hn2) room hF hb (fun H hO hS => want w H a ns hlen hO hS) fun G e t h => noX w G s₁ e t h
end DG

set_option Elab.async false
set_option linter.all false
set_option maxRecDepth 100000
set_option maxHeartbeats 4000000
namespace DL
open PySem L2 PyProof.Rows
section
variable {env : DEnv}
@[simp] theorem e_c {d : Dv} : fC d env = some (.d d, env) := rfl
@[simp] theorem e_nil : fNil env = some ([], env) := rfl
@[simp] theorem e_cons {fa : EF} {fr : AF} : fCons fa fr env = (fa env).bind fun p => (fr p.2).map fun q => (p.1 :: q.1, q.2) := rfl
@[simp] theorem e_op {g : DEnv → RV → RV → Option RV} {fa fb : EF} : fOp g fa fb env = (fa env).bind fun p => (fb p.2).bind fun q => (g q.2 p.1 q.1).map fun z => (z, q.2) := rfl
@[simp] theorem e_un {g : DEnv → RV → Option RV} {fa : EF} : fUn g fa env = (fa env).bind fun p => (g p.2 p.1).map fun z => (z, p.2) := rfl
@[simp] theorem e_cb {g : DEnv → List RV → Option RV} {fa : AF} : fCB g fa env = (fa env).bind fun p => (g p.2 p.1).map fun z => (z, p.2) := rfl
@[simp] theorem e_if {ft : TF} {fa fb : EF} : fIf ft fa fb env = (ft env).bind fun p => if p.1 = true then fa p.2 else fb p.2 := rfl
@[simp] theorem e_test {fa : EF} : fTest fa env = (fa env).bind fun p => (asB p.2 p.1).map fun b => (b, p.2) := rfl
@[simp] theorem e_and {f g : TF} : fAnd f g env = (f env).bind fun p => if p.1 = true then g p.2 else some (false, p.2) := rfl
@[simp] theorem e_or {f g : TF} : fOr f g env = (f env).bind fun p => if p.1 = true then some (true, p.2) else g p.2 := rfl
@[simp] theorem e_not {f : TF} : fNot f env = (f env).map fun p => (!p.1, p.2) := rfl
@[simp] theorem e_andV {fa fb : EF} : fAndV fa fb env = (fa env).bind fun p => (asB p.2 p.1).bind fun b => if b = true then fb p.2 else some (.d (.bl false), p.2) := rfl
@[simp] theorem e_orV {fa fb : EF} : fOrV fa fb env = (fa env).bind fun p => (asB p.2 p.1).bind fun b => if b = true then some (.d (.bl true), p.2) else fb p.2 := rfl
@[simp] theorem e_notV {fa : EF} : fNotV fa env = (fa env).bind fun p => (asB p.2 p.1).map fun b => (.d (.bl (!b)), p.2) := rfl
@[simp] theorem e_chain {g g' : DEnv → RV → RV → Option RV} {fa fb fc : EF} : fChain g g' fa fb fc env = (fa env).bind fun p => (fb p.2).bind fun q => (g q.2 p.1 q.1).bind fun z => (asB q.2 z).bind fun b =>
  if b = true then (fc q.2).bind fun r => (g' r.2 q.1 r.1).map fun z => (z, r.2) else some (.d (.bl false), q.2) := rfl
@[simp] theorem e_tup {fa : AF} : fTup' fa env = (fa env).bind fun p => (frzs p.2 p.1).bind fun q => if q.1.length ≤ szL then some (.d (.tup q.1), q.2) else none := rfl
@[simp] theorem e_lst {fa : AF} : fLst' fa env = (fa env).bind fun p => (frzs p.2 p.1).bind fun q => if q.1.length ≤ szL then some (.d (.lst q.1), q.2) else none := rfl
@[simp] theorem e_lLst {fa : AF} : lLst fa env = (fa env).bind fun p => (frzs p.2 p.1).bind fun q => if q.1.length ≤ szL then some (q.1, q.2) else none := rfl
@[simp] theorem e_lListOf {fa : EF} : lListOf fa env = (fa env).bind fun p => (asSeq p.2 p.1).map fun xs => (xs, p.2) := rfl
@[simp] theorem e_ofL {f : LF} : fOfL f env = (f env).map fun p => (.d (.lst p.1), p.2) := rfl
@[simp] theorem e_part {fa : EF} : fPart fa env = (fa env).bind fun p => (asI p.2 p.1).map fun i => (some i, p.2) := rfl
@[simp] theorem e_noPart : fNoPart env = some (none, env) := rfl
@[simp] theorem e_sl {fa : EF} {fl fh : DEnv → Option (Option Int × DEnv)} : fSl fa fl fh env = (fa env).bind fun p => (fl p.2).bind fun q => (fh q.2).bind fun r => (gSl r.2 p.1 q.1 r.1).map fun z => (z, r.2) := rfl
@[simp] theorem e_isi {T : BT} {fa : EF} : fIsi T fa env = (fa env).bind fun p => (look p.2 p.1).bind fun d => (isIt T d).map fun b => (.d (.bl b), p.2) := rfl
@[simp] theorem e_yes : tYesF env = some (true, env) := rfl
@[simp] theorem e_bits {fa : EF} : fBits fa env = (fa env).bind fun p => (asI p.2 p.1).map fun i => (.d (.int (Builtin.Int.intBits i : Nat)), p.2) := rfl
@[simp] theorem e_seq {f g : SF} : sSeq f g env = (f env).bind fun o => match o with
  | .nx e => g e
  | o => some o := rfl
@[simp] theorem e_next : sNext env = some (.nx env) := rfl
@[simp] theorem e_brk : sBreak env = some (.bk env) := rfl
@[simp] theorem e_cont : sCont env = some (.ct env) := rfl
@[simp] theorem e_never : sNever env = none := rfl
@[simp] theorem e_asg {fe : EF} {f : GF} : sAsg fe f env = (fe env).bind fun p => (frz p.2 p.1).bind fun q => (f q.1 q.2).map Out.nx := rfl
@[simp] theorem e_ret {fe : EF} : sRet fe env = (fe env).bind fun p => (frz p.2 p.1).map fun q => .rt q.1 q.2 := rfl
@[simp] theorem e_retN : sRetN env = some (.rt .non env) := rfl
@[simp] theorem e_sif {ft : TF} {f g : SF} : sIf ft f g env = (ft env).bind fun p => if p.1 = true then f p.2 else g p.2 := rfl
@[simp] theorem e_drop {fe : EF} : sDrop fe env = (fe env).map fun p => .nx p.2 := rfl
@[simp] theorem e_own {i : Nat} {f : LF} : sOwn i f env = (f env).bind fun p => if canSet p.2 i = true then some (.nx (p.2.set i (.own false p.1))) else none := rfl
@[simp] theorem e_par {i j : Nat} {fa fb : EF} : sPar i j fa fb env = (fa env).bind fun p => (fb p.2).bind fun q => (frz q.2 p.1).bind fun x => (frz x.2 q.1).bind fun y => (fName i x.1 y.2).bind fun e1 => (fName j y.1 e1).map Out.nx := rfl
@[simp] theorem e_parOD {i j : Nat} {fa : LF} {fb : EF} : sParOD i j fa fb env = (fa env).bind fun p => (fb p.2).bind fun q => (frz q.2 q.1).bind fun y => if canSet y.2 i = true then (fName j y.1 (y.2.set i (.own false p.1))).map Out.nx else none := rfl
@[simp] theorem e_parDO {i j : Nat} {fa : EF} {fb : LF} : sParDO i j fa fb env = (fa env).bind fun p => (frz p.2 p.1).bind fun x => (fb x.2).bind fun q => if canSet q.2 j = true then (fName i x.1 (q.2.set j (.own false q.1))).map Out.nx else none := rfl
@[simp] theorem e_par3 {i j l : Nat} {fa fb fc : EF} : sPar3 i j l fa fb fc env = (fa env).bind fun p => (frz p.2 p.1).bind fun x => (fb x.2).bind fun q => (frz q.2 q.1).bind fun y => (fc y.2).bind fun r => (frz r.2 r.1).bind fun z => (fName i x.1 z.2).bind fun e1 => (fName j y.1 e1).bind fun e2 => (fName l z.1 e2).map Out.nx := rfl
@[simp] theorem e_app {i : Nat} {fe : EF} : sApp i fe env = (ownL env i).bind fun _ => (fe env).bind fun p => (frz p.2 p.1).bind fun q => (ownL q.2 i).bind fun w => if w.2.length < szL then some (.nx (q.2.set i (.own w.1 (w.2 ++ [q.1])))) else none := rfl
@[simp] theorem e_setI {i : Nat} {fe fi : EF} : sSetI i fe fi env = (fe env).bind fun p => (frz p.2 p.1).bind fun q => (ownL q.2 i).bind fun _ => (fi q.2).bind fun r => (asI r.2 r.1).bind fun n => (ownL r.2 i).bind fun w => (ixN w.2.length n).map fun j => .nx (r.2.set i (.own w.1 (w.2.set j q.1))) := rfl
@[simp] theorem e_aug {i : Nat} {fe : EF} {f : Int → Int → Int} : sAug i fe f env = (fe env).bind fun p => (asI env (.v i)).bind fun a => (asI p.2 p.1).bind fun b => (fName i (.int (f a b)) p.2).map Out.nx := rfl
@[simp] theorem e_for {fi : IF} {gf : GF} {gb : SF} : sFor fi gf gb env = (fi env).bind fun p => loopF gf gb p.1 p.2 := rfl
@[simp] theorem e_call {n : Nat} {io : Option Nat} {F : FnF} {fa : AF} : fCall n io F fa env = (fa env).bind fun p => if p.1.length = n then callF io F p.1 p.2 else none := rfl
@[simp] theorem e_callN {n : Nat} {F : FnF} {fl : LF} {fa : AF} : fCallN n F fl fa env = (fl env).bind fun p => (fa p.2).bind fun q => (frzs q.2 q.1).bind fun z => if z.1.length + 1 = n then (F (.own true p.1 :: z.1.map .dat)).map fun r => (.d r.1, z.2) else none := rfl
@[simp] theorem e_new {n : Nat} {F : List Dv → Option (List Dv)} {fa : AF} : fNew n F fa env = (fa env).bind fun p => (frzs p.2 p.1).bind fun q => if q.1.length = n ∧ bare env = true then (F q.1).map fun xs => (xs, q.2) else none := rfl
@[simp] theorem e_then {g : SF} {f : LF} : fThen g f env = (g env).bind fun o => match o with
  | .nx e => f e
  | _ => none := rfl
@[simp] theorem e_callF {F : FnF} {rs : List RV} : callF none F rs env = (frzs env rs).bind fun q => (F (q.1.map .dat)).map fun r => (.d r.1, q.2) := rfl
@[simp] theorem e_callF0 {F : FnF} {i : Nat} {post : List RV} : callF (some 0) F (.v i :: post) env = (frzs env post).bind fun q2 => (ownL q2.2 i).bind fun w => (F (.own true w.2 :: q2.1.map .dat)).map fun r => (.d r.1, q2.2.set i (.own w.1 r.2)) := rfl
@[simp] theorem e_seqIt {fa : EF} : fSeqIt fa env = (fa env).bind fun p => (frz p.2 p.1).bind fun q => match q.1 with
  | .lst xs => some (xs, q.2)
  | .tup xs => some (xs, q.2)
  | _ => none := rfl
@[simp] theorem e_rng1 {fa : AF} : fRng1 fa env = (fa env).bind fun p => match p.1 with
  | [x] => (asI p.2 x).bind fun j => if rngC j then some (rangeD 0 j.toNat, p.2) else none
  | _ => none := rfl
@[simp] theorem e_rng2 {fa : AF} : fRng2 fa env = (fa env).bind fun p => match p.1 with
  | [x, y] => (asI p.2 x).bind fun i => (asI p.2 y).bind fun j => if rngC i ∧ rngC j then some (rangeD i (j - i).toNat, p.2) else none
  | _ => none := rfl
@[simp] theorem e_zipN {fa : AF} : fZipN fa env = (fa env).bind fun p => match p.1 with
  | [x, y] => (asSeqF p.2 x).bind fun q => (asSeqF q.2 y).bind fun r => some (pairD q.1 r.1, r.2)
  | _ => none := rfl
@[simp] theorem e_zipS {fa : AF} : fZipS fa env = (fa env).bind fun p => match p.1 with
  | [x, y] => (asSeqF p.2 x).bind fun q => (asSeqF q.2 y).bind fun r => if q.1.length = r.1.length then some (pairD q.1 r.1, r.2) else none
  | _ => none := rfl
@[simp] theorem e_gtup {n : Nat} {f : GFs} {xs : List Dv} : fGtup n f (.tup xs) env = if xs.length = n then f xs env else none := rfl
@[simp] theorem e_gnil : fGnil [] env = some env := rfl
@[simp] theorem e_gcons {f : GF} {g : GFs} {d : Dv} {r : List Dv} : fGcons f g (d :: r) env = (f d env).bind (g r) := rfl
@[simp] theorem e_frzs0 : frzs env [] = some ([], env) := rfl
@[simp] theorem e_frzs1 {r : RV} {rs : List RV} : frzs env (r :: rs) = (frz env r).bind fun p => (frzs p.2 rs).map fun q => (p.1 :: q.1, q.2) := rfl
@[simp] theorem e_g1 {f : DEnv → RV → Option RV} {x : RV} : g1 f env [x] = f env x := rfl
@[simp] theorem e_g2 {f : DEnv → RV → RV → Option RV} {x y : RV} : g2 f env [x, y] = f env x y := rfl
@[simp] theorem e_loop0 {gf : GF} {gb : SF} : loopF gf gb [] env = some (.nx env) := rfl
@[simp] theorem e_loop1 {gf : GF} {gb : SF} {d : Dv} {r : List Dv} : loopF gf gb (d :: r) env = (gf d env).bind fun e1 => (gb e1).bind fun o => match o with
    | .nx e2 => loopF gf gb r e2
    | .ct e2 => loopF gf gb r e2
    | .bk e2 => some (.nx e2)
    | .rt d e2 => some (.rt d e2) := rfl
@[simp] theorem e_run {n : Nat} {g : SF} {as : List Slot} : runDef n g as = (g (as ++ List.replicate (n - as.length) .non)).bind fun o => match o with
  | .rt d e => (outIo as e).map fun ys => (d, ys)
  | .nx e => (outIo as e).map fun ys => (.non, ys)
  | _ => none := rfl
@[simp] theorem e_out0 {e : DEnv} : outIo [] e = some [] := by cases e <;> rfl
@[simp] theorem e_out1 {b c : Bool} {xs ys : List Dv} {as : List Slot} {e : DEnv} : outIo (.own b xs :: as) (.own c ys :: e) = some ys := rfl
@[simp] theorem e_out2 {d : Dv} {s : Slot} {as : List Slot} {e : DEnv} : outIo (.dat d :: as) (s :: e) = outIo as e := rfl
end
/-! ### comprehensions -/
theorem back1 {e : DEnv} {t : Nat} {x : Slot} : backE e (e.set t x) [t] = e := by
  unfold backE backE
  cases h : e[t]? with
  | none =>
    simp only
    rw [List.set_eq_of_length_le (List.getElem?_eq_none_iff.mp h)]
  | some s =>
    simp only [List.set_set]
    apply List.ext_getElem?
    intro i
    rw [List.getElem?_set]
    split
    · rename_i z
      subst z
      rw [if_pos (List.getElem?_eq_some_iff.mp h).1, h]
    · rfl
theorem comp_go {α : Type} {t : Nat} {ft : TF} {fe : EF} {e0 : DEnv} (b : α → Bool) (i : α → Dv) (f : α → Dv) (ht : t < e0.length) : ∀ (l : List α) (acc : List Dv),
    (∀ x ∈ l, ft (e0.set t (.dat (i x))) = some (b x, e0.set t (.dat (i x)))) → (∀ x ∈ l, b x = true → ∃ rv, fe (e0.set t (.dat (i x))) = some (rv, e0.set t (.dat (i x))) ∧ frz (e0.set t (.dat (i x))) rv = some (f x, e0.set t (.dat (i x)))) → acc.length + l.length ≤ szL →
    compF (fName t) ft fe [t] (l.map i) (e0.set t .non) acc = some (acc ++ (l.filter b).map f, e0.set t .non)
  | [], acc, _, _, _ => by
    unfold compF
    simp
  | x :: l, acc, h1, h2, hz => by
    have g1 : fName t (i x) (e0.set t .non) = some (e0.set t (.dat (i x))) := by
      unfold fName
      rw [List.getElem?_set_self ht]
      simp
    rw [List.map_cons]
    rw [List.length_cons] at hz
    unfold compF
    rw [g1, Option.bind_some, h1 x List.mem_cons_self, Option.bind_some]
    cases hb : b x with
    | false =>
      rw [if_neg (by simp)]
      have w : wipeE (e0.set t (.dat (i x))) [t] = e0.set t .non := by
        unfold wipeE wipeE
        rw [List.set_set]
      rw [w, comp_go b i f ht l acc (fun y hy => h1 y (List.mem_cons_of_mem _ hy)) (fun y hy => h2 y (List.mem_cons_of_mem _ hy)) (by omega), List.filter_cons, if_neg (by simp [hb])]
    | true =>
      obtain ⟨rv, q1, q2⟩ := h2 x List.mem_cons_self hb
      rw [if_pos rfl, q1, Option.bind_some, q2, Option.bind_some, if_pos (by omega)]
      have w : wipeE (e0.set t (.dat (i x))) [t] = e0.set t .non := by
        unfold wipeE wipeE
        rw [List.set_set]
      rw [w, comp_go b i f ht l _ (fun y hy => h1 y (List.mem_cons_of_mem _ hy)) (fun y hy => h2 y (List.mem_cons_of_mem _ hy)) (by rw [List.length_append, List.length_singleton]; omega), List.filter_cons, if_pos hb, List.map_cons, List.append_assoc]
      rfl
theorem lc_gen {α : Type} {t : Nat} {fi : IF} {ft : TF} {fe : EF} {env e0 : DEnv} {l : List α} {i : α → Dv} (b : α → Bool) (f : α → Dv) (hi : fi env = some (l.map i, e0)) (ht : t < e0.length) (hn : noOwnB [t] e0 = true)
    (h1 : ∀ x ∈ l, ft (e0.set t (.dat (i x))) = some (b x, e0.set t (.dat (i x)))) (h2 : ∀ x ∈ l, b x = true → ∃ rv, fe (e0.set t (.dat (i x))) = some (rv, e0.set t (.dat (i x))) ∧ frz (e0.set t (.dat (i x))) rv = some (f x, e0.set t (.dat (i x))))
    (hz : l.length ≤ szL) : fLc fi (fName t) ft fe [t] env = some ((l.filter b).map f, e0) := by
  unfold fLc
  rw [hi, Option.bind_some, if_pos hn]
  have w : wipeE e0 [t] = e0.set t .non := rfl
  rw [w, comp_go b i f ht l [] h1 h2 (by simpa using hz), Option.map_some, back1, List.nil_append]
theorem lc_map {α : Type} {t : Nat} {fi : IF} {fe : EF} {env e0 : DEnv} {l : List α} {i : α → Dv} (f : α → Dv) (hi : fi env = some (l.map i, e0)) (ht : t < e0.length) (hn : noOwnB [t] e0 = true)
    (h2 : ∀ x ∈ l, fe (e0.set t (.dat (i x))) = some (.d (f x), e0.set t (.dat (i x)))) (hz : l.length ≤ szL) : fLc fi (fName t) tYesF fe [t] env = some (l.map f, e0) := by
  rw [lc_gen (fun _ => true) f hi ht hn (fun _ _ => rfl) (fun x hx _ => ⟨_, h2 x hx, rfl⟩) hz]
  congr 3
  exact List.filter_eq_self.mpr fun _ _ => rfl
theorem lc_fil {α : Type} {t : Nat} {fi : IF} {ft : TF} {env e0 : DEnv} {l : List α} {i : α → Dv} (b : α → Bool) (hi : fi env = some (l.map i, e0)) (ht : t < e0.length) (hn : noOwnB [t] e0 = true)
    (h1 : ∀ x ∈ l, ft (e0.set t (.dat (i x))) = some (b x, e0.set t (.dat (i x)))) (hz : l.length ≤ szL) : fLc fi (fName t) ft (fVar t) [t] env = some ((l.filter b).map i, e0) := by
  refine lc_gen b i hi ht hn h1 (fun x hx _ => ⟨.v t, ?_, ?_⟩) hz
  · unfold fVar
    rw [List.getElem?_set_self ht]
  · unfold frz
    simp only
    rw [List.getElem?_set_self ht]
/-! zip -/
theorem pairD_map {α β : Type} (i : α → Dv) (j : β → Dv) : ∀ (l : List α) (m : List β), pairD (l.map i) (m.map j) = (l.zip m).map fun p => .tup [i p.1, j p.2]
  | [], m => by cases m <;> rfl
  | x :: l, [] => rfl
  | x :: l, y :: m => by
    rw [List.map_cons, List.map_cons, List.zip_cons_cons, List.map_cons]
    unfold pairD
    rw [pairD_map i j l m]
theorem comp_zip {α : Type} {t u : Nat} {ft : TF} {fe : EF} {e0 : DEnv} (b : α → Bool) (i j : α → Dv) (f : α → Dv) (htu : t ≠ u) (ht : t < e0.length) (hu : u < e0.length) : ∀ (l : List α) (acc : List Dv),
    (∀ x ∈ l, ft ((e0.set t (.dat (i x))).set u (.dat (j x))) = some (b x, (e0.set t (.dat (i x))).set u (.dat (j x)))) →
    (∀ x ∈ l, b x = true → ∃ rv, fe ((e0.set t (.dat (i x))).set u (.dat (j x))) = some (rv, (e0.set t (.dat (i x))).set u (.dat (j x))) ∧ frz ((e0.set t (.dat (i x))).set u (.dat (j x))) rv = some (f x, (e0.set t (.dat (i x))).set u (.dat (j x)))) → acc.length + l.length ≤ szL →
    compF (fGtup 2 (fGcons (fName t) (fGcons (fName u) fGnil))) ft fe [t, u] (l.map fun p => .tup [i p, j p]) ((e0.set t .non).set u .non) acc = some (acc ++ (l.filter b).map f, (e0.set t .non).set u .non)
  | [], acc, _, _, _ => by
    unfold compF
    simp
  | x :: l, acc, h1, h2, hz => by
    have g1 : (fGtup 2 (fGcons (fName t) (fGcons (fName u) fGnil))) (.tup [i x, j x]) ((e0.set t .non).set u .non) = some ((e0.set t (.dat (i x))).set u (.dat (j x))) := by
      show ((fName t (i x) ((e0.set t .non).set u .non)).bind (fGcons (fName u) fGnil [j x])) = _
      have q : fName t (i x) ((e0.set t .non).set u .non) = some ((e0.set t (.dat (i x))).set u .non) := by
        unfold fName
        rw [List.getElem?_set_ne (Ne.symm htu), List.getElem?_set_self ht]
        simp only [Option.some.injEq]
        rw [List.set_comm _ _ htu.symm, List.set_set]
      rw [q, Option.bind_some]
      show ((fName u (j x) ((e0.set t (.dat (i x))).set u .non)).bind (fGnil [])) = _
      have q2 : fName u (j x) ((e0.set t (.dat (i x))).set u .non) = some ((e0.set t (.dat (i x))).set u (.dat (j x))) := by
        unfold fName
        rw [List.getElem?_set_self (by simpa using hu)]
        simp only [Option.some.injEq]
        rw [List.set_set]
      rw [q2]
      rfl
    have w : wipeE ((e0.set t (.dat (i x))).set u (.dat (j x))) [t, u] = (e0.set t .non).set u .non := by
      unfold wipeE wipeE wipeE
      rw [List.set_set, List.set_comm _ _ htu.symm, List.set_set]
    rw [List.map_cons]
    rw [List.length_cons] at hz
    unfold compF
    rw [g1, Option.bind_some, h1 x List.mem_cons_self, Option.bind_some]
    cases hb : b x with
    | false =>
      rw [if_neg (by simp)]
      rw [w, comp_zip b i j f htu ht hu l acc (fun y hy => h1 y (List.mem_cons_of_mem _ hy)) (fun y hy => h2 y (List.mem_cons_of_mem _ hy)) (by omega), List.filter_cons, if_neg (by simp [hb])]
    | true =>
      obtain ⟨rv, q1, q2⟩ := h2 x List.mem_cons_self hb
      rw [if_pos rfl, q1, Option.bind_some, q2, Option.bind_some, if_pos (by omega)]
      rw [w, comp_zip b i j f htu ht hu l _ (fun y hy => h1 y (List.mem_cons_of_mem _ hy)) (fun y hy => h2 y (List.mem_cons_of_mem _ hy)) (by rw [List.length_append, List.length_singleton]; omega), List.filter_cons, if_pos hb, List.map_cons, List.append_assoc]
      rfl
theorem back2 {e : DEnv} {t u : Nat} {x y : Slot} (htu : t ≠ u) (ht : t < e.length) (hu : u < e.length) : backE e ((e.set t x).set u y) [t, u] = e := by
  unfold backE backE backE
  rw [List.getElem?_eq_getElem ht, List.getElem?_eq_getElem hu]
  simp only
  apply List.ext_getElem?
  intro i
  rw [List.getElem?_set, List.getElem?_set, List.getElem?_set, List.getElem?_set]
  simp only [List.length_set]
  by_cases z : t = i
  · subst z
    simp [ht]
  · by_cases z2 : u = i
    · subst z2
      simp [z, hu]
    · simp [z, z2]
theorem lz_gen {α : Type} {t u : Nat} {fi : IF} {ft : TF} {fe : EF} {env e0 : DEnv} {l : List α} {i j : α → Dv} (b : α → Bool) (f : α → Dv) (hi : fi env = some (l.map (fun p => .tup [i p, j p]), e0)) (htu : t ≠ u) (ht : t < e0.length) (hu : u < e0.length) (hn : noOwnB [t, u] e0 = true)
    (h1 : ∀ x ∈ l, ft ((e0.set t (.dat (i x))).set u (.dat (j x))) = some (b x, (e0.set t (.dat (i x))).set u (.dat (j x))))
    (h2 : ∀ x ∈ l, b x = true → ∃ rv, fe ((e0.set t (.dat (i x))).set u (.dat (j x))) = some (rv, (e0.set t (.dat (i x))).set u (.dat (j x))) ∧ frz ((e0.set t (.dat (i x))).set u (.dat (j x))) rv = some (f x, (e0.set t (.dat (i x))).set u (.dat (j x))))
    (hz : l.length ≤ szL) : fLc fi (fGtup 2 (fGcons (fName t) (fGcons (fName u) fGnil))) ft fe [t, u] env = some ((l.filter b).map f, e0) := by
  unfold fLc
  rw [hi, Option.bind_some, if_pos hn]
  have w : wipeE e0 [t, u] = (e0.set t .non).set u .non := by
    unfold wipeE wipeE wipeE
    rw [List.set_comm _ _ htu.symm]
  rw [w, comp_zip b i j f htu ht hu l [] h1 h2 (by simpa using hz), Option.map_some, back2 htu ht hu, List.nil_append]
theorem lz_map {α : Type} {t u : Nat} {fi : IF} {fe : EF} {env e0 : DEnv} {l : List α} {i j : α → Dv} (f : α → Dv) (hi : fi env = some (l.map (fun p => .tup [i p, j p]), e0)) (htu : t ≠ u) (ht : t < e0.length) (hu : u < e0.length) (hn : noOwnB [t, u] e0 = true)
    (h2 : ∀ x ∈ l, fe ((e0.set t (.dat (i x))).set u (.dat (j x))) = some (.d (f x), (e0.set t (.dat (i x))).set u (.dat (j x)))) (hz : l.length ≤ szL) : fLc fi (fGtup 2 (fGcons (fName t) (fGcons (fName u) fGnil))) tYesF fe [t, u] env = some (l.map f, e0) := by
  rw [lz_gen (fun _ => true) f hi htu ht hu hn (fun _ _ => rfl) (fun x hx _ => ⟨_, h2 x hx, rfl⟩) hz]
  congr 3
  exact List.filter_eq_self.mpr fun _ _ => rfl
end DL

set_option Elab.async false
set_option linter.all false
set_option maxRecDepth 100000
set_option maxHeartbeats 4000000
namespace DL
open PySem L2 PyProof.Rows
/-! ### sizes of numbers -/
def sm (k : Nat) (i : Int) : Prop := i.natAbs < 2 ^ k
theorem sm.mono {a b : Nat} {i : Int} (h : sm a i) (ab : a ≤ b) : sm b i := Nat.lt_of_lt_of_le h (Nat.pow_le_pow_right (by decide) ab)
theorem sm.mul {a b : Nat} {i j : Int} (h : sm a i) (g : sm b j) : sm (a + b) (i * j) := by
  unfold sm at *
  rw [Int.natAbs_mul, Nat.pow_add]
  exact Nat.mul_lt_mul'' h g
theorem sm.add {a : Nat} {i j : Int} (h : sm a i) (g : sm a j) : sm (a + 1) (i + j) := by
  unfold sm at *
  have := Int.natAbs_add_le i j
  rw [Nat.pow_succ]
  omega
theorem sm.sub {a : Nat} {i j : Int} (h : sm a i) (g : sm a j) : sm (a + 1) (i - j) := by
  unfold sm at *
  have := Int.natAbs_sub_le i j
  rw [Nat.pow_succ]
  omega
theorem sm.neg {a : Nat} {i : Int} (h : sm a i) : sm a (-i) := by
  unfold sm at *
  rwa [Int.natAbs_neg]
theorem sm.log {a : Nat} {i : Int} (h : sm (a + 1) i) : i.natAbs.log2 ≤ a := by
  by_cases z : i.natAbs = 0
  · rw [z]
    exact Nat.zero_le _
  · exact Nat.le_of_lt_succ ((Nat.log2_lt z).mpr h)
theorem sm.cm {a b : Nat} {i j : Int} (h : sm a i) (g : sm b j) (l : a + b ≤ 900000) : CMulW i j := by
  unfold CMulW
  have := (h.mono (Nat.le_succ a)).log
  have := (g.mono (Nat.le_succ b)).log
  omega
theorem sm_of {k : Nat} {i : Int} (h : 0 ≤ i) (g : i < 2 ^ k) : sm k i := by
  unfold sm
  have : ((2 ^ k : Nat) : Int) = 2 ^ k := by rw [Int.natCast_pow]; rfl
  omega
theorem sm.lt {k : Nat} {i : Int} (h : sm k i) : i < 2 ^ k := by
  unfold sm at h
  have : ((2 ^ k : Nat) : Int) = 2 ^ k := by rw [Int.natCast_pow]; rfl
  omega
theorem sm.gt {k : Nat} {i : Int} (h : sm k i) : -(2 ^ k) < i := by
  unfold sm at h
  have : ((2 ^ k : Nat) : Int) = 2 ^ k := by rw [Int.natCast_pow]; rfl
  omega
theorem sm_sum {k n : Nat} : ∀ {l : List Int}, (∀ x ∈ l, sm k x) → l.length ≤ n → sm (k + n) l.sum
  | [], _, _ => by
    unfold sm
    exact Nat.pow_pos (by decide)
  | x :: l, h, hn => by
    cases n with
    | zero => simp at hn
    | succ n =>
      rw [List.sum_cons]
      have a := sm_sum (n := n) (l := l) (fun y hy => h y (List.mem_cons_of_mem _ hy)) (by simpa using hn)
      exact ((h x List.mem_cons_self).mono (Nat.le_add_right k n)).add a

/-! ### data for == -/
def okd (n : Nat) (d : Dv) : Prop := (py d).canLay0 = true ∧ (py d).depth ≤ n
theorem okd.mono {n m : Nat} {d : Dv} (h : okd n d) (k : n ≤ m) : okd m d := ⟨h.1, Nat.le_trans h.2 k⟩
theorem okd_int {n : Nat} {i : Int} : okd n (.int i) := ⟨by simp only [py, PyData.canLay0], by simp [py, PyData.depth]⟩
theorem okd_bl {n : Nat} {i : Bool} : okd n (.bl i) := ⟨by simp only [py, PyData.canLay0], by simp [py, PyData.depth]⟩
theorem okd_non {n : Nat} : okd n .non := ⟨by simp only [py, PyData.canLay0], by simp [py, PyData.depth]⟩
theorem okd_str {n : Nat} {s : Str} (h : (PyData.str s).canLay0 = true) : okd n (.str s) := ⟨by simpa only [py] using h, by simp [py, PyData.depth]⟩
theorem okds {n : Nat} : ∀ {ds : List Dv}, (∀ d ∈ ds, okd n d) → PyData.canLayAll0 (pys ds) = true ∧ PyData.depthAll (pys ds) ≤ n
  | [], _ => ⟨by simp only [pys, PyData.canLayAll0], by simp [pys, PyData.depthAll]⟩
  | d :: ds, h => by
    obtain ⟨a, b⟩ := okds fun x hx => h x (List.mem_cons_of_mem _ hx)
    obtain ⟨c, e⟩ := h d List.mem_cons_self
    refine ⟨?_, ?_⟩
    · simp only [pys, PyData.canLayAll0, a, c, Bool.and_self]
    · simp only [pys, PyData.depthAll]
      omega
theorem okd_lst {n : Nat} {ds : List Dv} (h : ∀ d ∈ ds, okd n d) : okd (n + 1) (.lst ds) := by
  obtain ⟨a, b⟩ := okds h
  exact ⟨by simpa only [py, PyData.canLay0] using a, by simp only [py, PyData.depth]; omega⟩
theorem okd_tup {n : Nat} {ds : List Dv} (h : ∀ d ∈ ds, okd n d) : okd (n + 1) (.tup ds) := by
  obtain ⟨a, b⟩ := okds h
  exact ⟨by simpa only [py, PyData.canLay0] using a, by simp only [py, PyData.depth]; omega⟩
theorem okd_ints {ns : List Int} : ∀ d ∈ ns.map Dv.int, okd 0 d := fun d h => by
  obtain ⟨i, _, rfl⟩ := List.mem_map.mp h
  exact okd_int
theorem okd_tupI {n : Nat} {ns : List Int} : okd (n + 1) (.tup (ns.map .int)) := (okd_tup okd_ints).mono (by omega)
theorem okd_lstI {n : Nat} {ns : List Int} : okd (n + 1) (.lst (ns.map .int)) := (okd_lst okd_ints).mono (by omega)
theorem eqC_ok {d e : Dv} (h : okd 64 d) (g : okd 64 e) : eqC d e = true := by
  unfold eqC SeqAt.shaped
  rw [h.1, g.1, decide_eq_true h.2, decide_eq_true g.2]
  rfl
theorem eqv_int {i j : Int} : PyData.eqv (py (.int i)) (py (.int j)) = (i == j) := by simp only [py, PyData.eqv]
theorem eqv_bl {i j : Bool} : PyData.eqv (py (.bl i)) (py (.bl j)) = (i == j) := by simp only [py, PyData.eqv]
theorem eqv_str {i j : Str} : PyData.eqv (py (.str i)) (py (.str j)) = (i == j) := by simp only [py, PyData.eqv]
theorem eqv_lst {i j : List Dv} : PyData.eqv (py (.lst i)) (py (.lst j)) = PyData.eqvAll (pys i) (pys j) := by simp only [py, PyData.eqv]
theorem eqv_tup {i j : List Dv} : PyData.eqv (py (.tup i)) (py (.tup j)) = PyData.eqvAll (pys i) (pys j) := by simp only [py, PyData.eqv]
theorem eqv_nil {i : List Dv} : PyData.eqv (py (.lst i)) (py (.lst [])) = i.isEmpty := by
  rw [eqv_lst]
  cases i <;> simp only [pys, PyData.eqvAll, List.isEmpty]
theorem eqvAll_ints : ∀ {ns ms : List Int}, PyData.eqvAll (pys (ns.map .int)) (pys (ms.map .int)) = decide (ns = ms)
  | [], [] => by simp [pys, PyData.eqvAll]
  | [], m :: ms => by simp [pys, PyData.eqvAll]
  | n :: ns, [] => by simp [pys, PyData.eqvAll]
  | n :: ns, m :: ms => by
    simp only [List.map_cons, pys, PyData.eqvAll]
    rw [eqvAll_ints, eqv_int]
    rw [Bool.eq_iff_iff]
    simp
theorem eqv_tupI {ns ms : List Int} : PyData.eqv (py (.tup (ns.map .int))) (py (.tup (ms.map .int))) = decide (ns = ms) := by rw [eqv_tup, eqvAll_ints]
theorem eqv_lstI {ns ms : List Int} : PyData.eqv (py (.lst (ns.map .int))) (py (.lst (ms.map .int))) = decide (ns = ms) := by rw [eqv_lst, eqvAll_ints]
mutual
theorem eqv_rfl : ∀ {d : Dv}, (py d).canLay0 = true → PyData.eqv (py d) (py d) = true
  | .non, _ => by simp only [py, PyData.eqv]
  | .bl b, _ => by simp only [py, PyData.eqv, beq_self_eq_true]
  | .int b, _ => by simp only [py, PyData.eqv, beq_self_eq_true]
  | .str b, _ => by simp only [py, PyData.eqv, beq_self_eq_true]
  | .lst xs, h => by
    simp only [py, PyData.canLay0] at h
    rw [eqv_lst]
    exact eqvs_rfl h
  | .tup xs, h => by
    simp only [py, PyData.canLay0] at h
    rw [eqv_tup]
    exact eqvs_rfl h
  | .ins _ _ _, h => by simp only [py, PyData.canLay0] at h; cases h
  | .ty _, h => by simp only [py, PyData.canLay0] at h; cases h
  | .cls _, h => by simp only [py, PyData.canLay0] at h; cases h
  | .anyS, h => by simp only [py, PyData.canLay0] at h; cases h
  | .dct _ _, h => by simp only [py, PyData.canLay0] at h; cases h
  | .scr _ _, h => by simp only [py, PyData.canLay0] at h; cases h
theorem eqvs_rfl : ∀ {ds : List Dv}, PyData.canLayAll0 (pys ds) = true → PyData.eqvAll (pys ds) (pys ds) = true
  | [], _ => by simp only [pys, PyData.eqvAll]
  | d :: ds, h => by
    simp only [pys, PyData.canLayAll0, Bool.and_eq_true] at h
    simp only [pys, PyData.eqvAll, eqv_rfl h.1, eqvs_rfl h.2, Bool.and_self]
end
/-! ### items, slices of encoded lists -/
theorem atI_pos {α : Type} {xs : List α} {i : Int} (h0 : 0 ≤ i) (h : i < xs.length) : atI xs i = xs[i.toNat]? := by
  unfold atI ixN
  rw [if_pos h0, if_pos h]
  rfl
theorem atI_nat {α : Type} {xs : List α} (i : Nat) : atI xs (i : Int) = xs[i]? := by
  by_cases h : i < xs.length
  · rw [atI_pos (by omega) (by omega)]
    simp
  · unfold atI ixN
    rw [if_pos (by omega), if_neg (by omega), List.getElem?_eq_none (by omega)]
    rfl
theorem atI_zero {α : Type} {x : α} {xs : List α} : atI (x :: xs) 0 = some x := by
  rw [atI_pos (by decide) (by simp only [List.length_cons]; omega)]
  rfl
theorem atI_map {α β : Type} {f : α → β} {xs : List α} {i : Int} : atI (xs.map f) i = (atI xs i).map f := by
  unfold atI
  rw [List.length_map]
  cases ixN xs.length i with
  | none => rfl
  | some j => simp
theorem cut_map {α β : Type} {f : α → β} {xs : List α} {lo hi : Option Int} : cut (xs.map f) lo hi = (cut xs lo hi).map f := by
  unfold cut
  rw [List.length_map, List.map_take, List.map_drop]
theorem sIx_nn {n : Nat} {i : Int} {d : Nat} (h : 0 ≤ i) : HT.sIx n d (some i) = min i.toNat n := by
  show (if i < 0 then (i + (n : Int)).toNat else min i.toNat n) = min i.toNat n
  rw [if_neg (by omega)]
theorem cut_from {α : Type} {xs : List α} {i : Int} (h : 0 ≤ i) : cut xs (some i) none = xs.drop i.toNat := by
  unfold cut
  rw [sIx_nn h, HT.sIx_none, List.take_of_length_le (by rw [List.length_drop]; omega)]
  by_cases z : i.toNat ≤ xs.length
  · rw [Nat.min_eq_left z]
  · rw [Nat.min_eq_right (by omega), List.drop_of_length_le (Nat.le_refl _), List.drop_of_length_le (by omega)]
theorem cut_to {α : Type} {xs : List α} {i : Int} (h : 0 ≤ i) : cut xs none (some i) = xs.take i.toNat := by
  unfold cut
  rw [sIx_nn h, HT.sIx_none, List.drop_zero, Nat.sub_zero]
  by_cases z : i.toNat ≤ xs.length
  · rw [Nat.min_eq_left z]
  · rw [Nat.min_eq_right (by omega), List.take_of_length_le (Nat.le_refl _), List.take_of_length_le (by omega)]
theorem cut_all {α : Type} {xs : List α} : cut xs none none = xs := by
  unfold cut
  rw [HT.sIx_none, HT.sIx_none, List.drop_zero, Nat.sub_zero, List.take_of_length_le (Nat.le_refl _)]
theorem cut_mid {α : Type} {xs : List α} {i j : Int} (h : 0 ≤ i) (g : 0 ≤ j) : cut xs (some i) (some j) = (xs.drop i.toNat).take (j.toNat - i.toNat) := by
  unfold cut
  rw [sIx_nn h, sIx_nn g]
  by_cases z : i.toNat ≤ xs.length
  · rw [Nat.min_eq_left z]
    by_cases w : j.toNat ≤ xs.length
    · rw [Nat.min_eq_left w]
    · rw [Nat.min_eq_right (by omega), List.take_of_length_le (by rw [List.length_drop]; omega), List.take_of_length_le (by rw [List.length_drop]; omega)]
  · rw [Nat.min_eq_right (a := i.toNat) (by omega), List.drop_of_length_le (Nat.le_refl _), List.drop_of_length_le (by omega)]
    simp
theorem cut_tail {α : Type} {x : α} {xs : List α} : cut (x :: xs) (some 1) none = xs := by
  rw [cut_from (by decide)]
  rfl
/-! ### plain data: isinstance asks nothing odd -/
def pl : Dv → Bool
  | .ins _ _ _ => false
  | .ty _ => false
  | .cls _ => false
  | .scr _ _ => false
  | .dct _ _ => false
  | .exc _ _ _ => false
  | _ => true
/-! ### loops -/
/-- a loop over items, each of which leads from one state to the next -/
theorem loop_go {α σ : Type} {gf : GF} {gb : SF} (E : σ → DEnv) (i : α → Dv) (step : σ → α → σ) (P : σ → Prop) (l : List α)
    (h : ∀ x ∈ l, ∀ s, P s → P (step s x) ∧ (gf (i x) (E s)).bind gb = some (.nx (E (step s x)))) : ∀ s, P s → loopF gf gb (l.map i) (E s) = some (.nx (E (l.foldl step s))) ∧ P (l.foldl step s) := by
  induction l with
  | nil => exact fun s p => ⟨rfl, p⟩
  | cons x l ih =>
    intro s p
    obtain ⟨p2, e⟩ := h x List.mem_cons_self s p
    obtain ⟨e1, h1, h2⟩ := Option.bind_eq_some_iff.mp e
    rw [List.map_cons, e_loop1, h1, Option.bind_some, h2, Option.bind_some]
    exact ih (fun y hy => h y (List.mem_cons_of_mem _ hy)) _ p2
/-- a loop by an invariant of what stands -/
theorem loop_inv {gf : GF} {gb : SF} (P : Nat → DEnv → Prop) (l : List Dv) (h : ∀ (i : Nat) d, l[i]? = some d → ∀ e, P i e → ∃ e1 e2, gf d e = some e1 ∧ (gb e1 = some (.nx e2) ∨ gb e1 = some (.ct e2)) ∧ P (i + 1) e2) :
    ∀ e, P 0 e → ∃ e', loopF gf gb l e = some (.nx e') ∧ P l.length e' := by
  induction l generalizing P with
  | nil => exact fun e p => ⟨e, rfl, p⟩
  | cons d l ih =>
    intro e p
    obtain ⟨e1, e2, h1, h2, p2⟩ := h 0 d rfl e p
    obtain ⟨e', h3, p3⟩ := ih (fun i => P (i + 1)) (fun i d hd e pe => h (i + 1) d hd e pe) e2 p2
    refine ⟨e', ?_, p3⟩
    rw [e_loop1, h1, Option.bind_some]
    rcases h2 with h2 | h2
    · rw [h2, Option.bind_some]
      exact h3
    · rw [h2, Option.bind_some]
      exact h3
/-- a comprehension by an invariant (what it calls may change a list) -/
theorem comp_inv {gf : GF} {ft : TF} {fe : EF} {ts : List Nat} (P : Nat → DEnv → List Dv → Prop) (l : List Dv)
    (h : ∀ (i : Nat) d, l[i]? = some d → ∀ e acc, P i e acc → ∃ e1 e2 b, gf d e = some e1 ∧ ft e1 = some (b, e2) ∧ (b = false → P (i + 1) (wipeE e2 ts) acc) ∧ (b = true → ∃ rv e3 z e4, fe e2 = some (rv, e3) ∧ frz e3 rv = some (z, e4) ∧ P (i + 1) (wipeE e4 ts) (acc ++ [z]))) :
    ∀ e acc, P 0 e acc → acc.length + l.length ≤ szL → ∃ e' xs, compF gf ft fe ts l e acc = some (xs, e') ∧ P l.length e' xs := by
  induction l generalizing P with
  | nil => exact fun e acc p _ => ⟨e, acc, rfl, p⟩
  | cons d l ih =>
    intro e acc p hz
    rw [List.length_cons] at hz
    obtain ⟨e1, e2, b, h1, h2, h3, h4⟩ := h 0 d rfl e acc p
    unfold compF
    rw [h1, Option.bind_some, h2, Option.bind_some]
    cases b with
    | false => exact ih (fun i => P (i + 1)) (fun i d hd e acc pe => h (i + 1) d hd e acc pe) _ _ (h3 rfl) (by omega)
    | true =>
      obtain ⟨rv, e3, z, e4, h5, h6, p6⟩ := h4 rfl
      rw [if_pos rfl, h5, Option.bind_some, h6, Option.bind_some, if_pos (by omega)]
      exact ih (fun i => P (i + 1)) (fun i d hd e acc pe => h (i + 1) d hd e acc pe) _ _ p6 (by rw [List.length_append, List.length_singleton]; omega)
theorem rangeD_get {lo : Int} {n i : Nat} {d : Dv} (h : (rangeD lo n)[i]? = some d) : d = .int (lo + i) ∧ i < n := by
  unfold rangeD at h
  rw [List.getElem?_map] at h
  obtain ⟨j, h1, h2⟩ := Option.map_eq_some_iff.mp h
  obtain ⟨h3, h4⟩ := List.getElem?_eq_some_iff.mp h1
  rw [List.getElem_range] at h4
  subst h4
  rw [List.length_range] at h3
  exact ⟨h2.symm, h3⟩
theorem rangeD_len {lo : Int} {n : Nat} : (rangeD lo n).length = n := by simp [rangeD]
theorem rangeD_map {lo : Int} {n : Nat} : rangeD lo n = (List.range n).map fun i : Nat => .int (lo + (i : Int)) := rfl
theorem rng_ok {i : Int} (h : -1000000000 ≤ i) (g : i ≤ 1000000000) : rngC i := ⟨by omega, by omega⟩
/-! ### unrolling -/
theorem u_lc {fi : IF} {gf : GF} {ft : TF} {fe : EF} {ts : List Nat} {env : DEnv} : fLc fi gf ft fe ts env = (fi env).bind fun p => if noOwnB ts p.2 = true then (compF gf ft fe ts p.1 (wipeE p.2 ts) []).map fun q => (q.1, backE p.2 q.2 ts) else none := rfl
theorem u_comp0 {gf : GF} {ft : TF} {fe : EF} {ts : List Nat} {env : DEnv} {acc : List Dv} : compF gf ft fe ts [] env acc = some (acc, env) := rfl
theorem u_comp1 {gf : GF} {ft : TF} {fe : EF} {ts : List Nat} {env : DEnv} {acc : List Dv} {d : Dv} {r : List Dv} : compF gf ft fe ts (d :: r) env acc = (gf d env).bind fun e1 => (ft e1).bind fun p => if p.1 = true then (fe p.2).bind fun q => (frz q.2 q.1).bind fun z => if acc.length < szL then compF gf ft fe ts r (wipeE z.2 ts) (acc ++ [z.1]) else none
    else compF gf ft fe ts r (wipeE p.2 ts) acc := rfl
theorem u_wipe0 {env : DEnv} : wipeE env [] = env := rfl
theorem u_wipe1 {env : DEnv} {i : Nat} {is : List Nat} : wipeE env (i :: is) = (wipeE env is).set i .non := rfl
theorem u_back0 {e0 env : DEnv} : backE e0 env [] = env := rfl
theorem u_back1 {e0 env : DEnv} {i : Nat} {is : List Nat} : backE e0 env (i :: is) = match e0[i]? with
    | some s => (backE e0 env is).set i s
    | none => backE e0 env is := rfl
theorem atI_1 {α : Type} {x y : α} {xs : List α} : atI (x :: y :: xs) 1 = some y := by
  rw [atI_pos (by decide) (by simp only [List.length_cons]; omega)]
  rfl
theorem atI_2 {α : Type} {x y z : α} {xs : List α} : atI (x :: y :: z :: xs) 2 = some z := by
  rw [atI_pos (by decide) (by simp only [List.length_cons]; omega)]
  rfl
theorem atI_3 {α : Type} {x y z u : α} {xs : List α} : atI (x :: y :: z :: u :: xs) 3 = some u := by
  rw [atI_pos (by decide) (by simp only [List.length_cons]; omega)]
  rfl
theorem range_00 : rangeD 1 0 = [] := rfl
theorem range_1 : rangeD 1 1 = [.int 1] := rfl
theorem range_2 : rangeD 1 2 = [.int 1, .int 2] := rfl
theorem range_3 : rangeD 1 3 = [.int 1, .int 2, .int 3] := rfl
/-! ### comprehensions whose source leaves the environment as it is -/
theorem c_gen {α : Type} {t : Nat} {fi : IF} {ft : TF} {fe : EF} {env : DEnv} {l : List α} {i : α → Dv} (b : α → Bool) (f : α → Dv) (hi : fi env = some (l.map i, env)) (ht : t < env.length) (hn : noOwnB [t] env = true)
    (h1 : ∀ x ∈ l, ft (env.set t (.dat (i x))) = some (b x, env.set t (.dat (i x)))) (h2 : ∀ x ∈ l, b x = true → ∃ rv, fe (env.set t (.dat (i x))) = some (rv, env.set t (.dat (i x))) ∧ frz (env.set t (.dat (i x))) rv = some (f x, env.set t (.dat (i x))))
    (hz : l.length ≤ szL) : fLc fi (fName t) ft fe [t] env = some ((l.filter b).map f, env) := lc_gen b f hi ht hn h1 h2 hz
theorem c_map {α : Type} {t : Nat} {fi : IF} {fe : EF} {env : DEnv} {l : List α} {i : α → Dv} (f : α → Dv) (hi : fi env = some (l.map i, env)) (ht : t < env.length) (hn : noOwnB [t] env = true)
    (h2 : ∀ x ∈ l, fe (env.set t (.dat (i x))) = some (.d (f x), env.set t (.dat (i x)))) (hz : l.length ≤ szL) : fLc fi (fName t) tYesF fe [t] env = some (l.map f, env) := lc_map f hi ht hn h2 hz
theorem c_fil {α : Type} {t : Nat} {fi : IF} {ft : TF} {env : DEnv} {l : List α} {i : α → Dv} (b : α → Bool) (hi : fi env = some (l.map i, env)) (ht : t < env.length) (hn : noOwnB [t] env = true)
    (h1 : ∀ x ∈ l, ft (env.set t (.dat (i x))) = some (b x, env.set t (.dat (i x)))) (hz : l.length ≤ szL) : fLc fi (fName t) ft (fVar t) [t] env = some ((l.filter b).map i, env) := lc_fil b hi ht hn h1 hz
theorem z_gen {α : Type} {t u : Nat} {fi : IF} {ft : TF} {fe : EF} {env : DEnv} {l : List α} {i j : α → Dv} (b : α → Bool) (f : α → Dv) (hi : fi env = some (l.map (fun p => .tup [i p, j p]), env)) (htu : t ≠ u) (ht : t < env.length) (hu : u < env.length) (hn : noOwnB [t, u] env = true)
    (h1 : ∀ x ∈ l, ft ((env.set t (.dat (i x))).set u (.dat (j x))) = some (b x, (env.set t (.dat (i x))).set u (.dat (j x))))
    (h2 : ∀ x ∈ l, b x = true → ∃ rv, fe ((env.set t (.dat (i x))).set u (.dat (j x))) = some (rv, (env.set t (.dat (i x))).set u (.dat (j x))) ∧ frz ((env.set t (.dat (i x))).set u (.dat (j x))) rv = some (f x, (env.set t (.dat (i x))).set u (.dat (j x))))
    (hz : l.length ≤ szL) : fLc fi (fGtup 2 (fGcons (fName t) (fGcons (fName u) fGnil))) ft fe [t, u] env = some ((l.filter b).map f, env) := lz_gen b f hi htu ht hu hn h1 h2 hz
theorem z_map {α : Type} {t u : Nat} {fi : IF} {fe : EF} {env : DEnv} {l : List α} {i j : α → Dv} (f : α → Dv) (hi : fi env = some (l.map (fun p => .tup [i p, j p]), env)) (htu : t ≠ u) (ht : t < env.length) (hu : u < env.length) (hn : noOwnB [t, u] env = true)
    (h2 : ∀ x ∈ l, fe ((env.set t (.dat (i x))).set u (.dat (j x))) = some (.d (f x), (env.set t (.dat (i x))).set u (.dat (j x)))) (hz : l.length ≤ szL) : fLc fi (fGtup 2 (fGcons (fName t) (fGcons (fName u) fGnil))) tYesF fe [t, u] env = some (l.map f, env) := lz_map f hi htu ht hu hn h2 hz
end DL

set_option Elab.async false
set_option linter.all false
set_option maxRecDepth 100000
set_option maxHeartbeats 4000000
/-! repr of data; in, not in -/
namespace DL
open PySem L2 PyProof.Rows
theorem hu70 {k : Nat} {A : Around} (r : Room k A) : A.units + 70 < cLine := by
  have := r.un
  omega
def rRepr (K : PySem.W.Frag) : List V → Hp → VK → Prop := fun xs H Q => ∃ x d, xs = [x] ∧ Dp K H x d ∧ d.showable = true ∧ d.hasDict = false ∧ d.depth ≤ 64 ∧ d.shown.length ≤ sizeLine ∧ Q (.str d.shown) H
theorem callRepr {X : Cx} (g : X.A.guards = some []) (hu : X.A.units + 70 < cLine) : CallR X (.builtin "repr") (rRepr X.K) := by
  intro pins s σ H xs us Q I r h
  obtain ⟨x, d, rfl, dp, sh, nd, dep, len, q⟩ := h
  obtain ⟨u, rfl, r1⟩ := vals1 r
  obtain ⟨as, rd⟩ := Dp.reads I d x u dp r1
  have fin : ∀ {h' : Heap} {tk : Nat} {t : Tok}, (∀ b o, s.heap.get? b = some o → h'.get? b = some o) → EP X pins σ Q (.str d.shown t) { s with heap := h', toks := tk } := fun {h' tk t} k => ⟨.str _, H, I.kept (t' := tk) k, ⟨_, rfl⟩, q⟩
  have same : ∀ {tk : Nat} {t : Tok}, EP X pins σ Q (.str d.shown t) { s with toks := tk } := fun {tk t} => ⟨.str _, H, I.tok tk, ⟨_, rfl⟩, q⟩
  cases rd with
  | none => exact PySem.P.repr_of_none same
  | bool b => exact PySem.P.repr_of_bool same
  | int i t => exact PySem.P.repr_of_int (by simpa [PyData.showable] using sh) same
  | str y t => exact PySem.P.repr_of_str same len
  | list h1 h2 h3 h4 => exact repr_of_reads' (.list h1 h2 h3 h4) sh (PySem.PyData.noDict_hsm nd) g (by omega) (fun _ _ z => z) (fun h' u tk k => fin k) len
  | tuple h1 h2 h3 h4 => exact repr_of_reads' (.tuple h1 h2 h3 h4) sh (PySem.PyData.noDict_hsm nd) g (by omega) (fun _ _ z => z) (fun h' u tk k => fin k) len
  | dict _ _ _ _ _ => simp [PyData.hasDict] at nd
end DL
namespace DL
open PySem L2 PyProof.Rows
/-- what may be shown -/
def shC (d : Dv) : Prop := (py d).showable = true ∧ (py d).canLay0 = true ∧ (py d).depth ≤ 64 ∧ (py d).shown.length ≤ szL
noncomputable instance (d : Dv) : Decidable (shC d) := Classical.propDecidable _
noncomputable def gRepr (env : DEnv) (x : RV) : Option RV := (look env x).bind fun d => if shC d then some (.d (.str (py d).shown)) else none
theorem rc_repr {K : PySem.W.Frag} : RC (rRepr K) (g1 gRepr) := rc_1 fun C env σ H Q x v z h R r k => by
  unfold gRepr at h
  obtain ⟨d, h1, h⟩ := Option.bind_eq_some_iff.mp h
  split at h
  · rename_i c
    cases h
    exact ⟨v, py d, rfl, dp_of d v c.2.1 (look_ok R r h1), c.1, PyData.hasDict_of_canLay _ c.2.1, c.2.2.1, szL_le c.2.2.2, fin_str R k⟩
  · cases h
/-! ### x in xs, x not in xs -/
def flD : Dv → Bool
  | .non => true
  | .bl _ => true
  | .int _ => true
  | .str _ => true
  | _ => false
theorem fl_ok {M : Addr → Prop} {H : Hp} {d : Dv} {v : V} (h : flD d = true) (hd : Dat M H d v) : flatV v = true ∧ ∀ e w, flD e = true → Dat M H e w → eqV v w = PyData.eqv (py d) (py e) := by
  cases d <;> simp only [flD, Bool.false_eq_true] at h <;> unfold Dat at hd <;> subst hd <;> refine ⟨rfl, fun e w he hw => ?_⟩ <;>
    (cases e <;> simp only [flD, Bool.false_eq_true] at he <;> unfold Dat at hw <;> subst hw <;> simp only [eqV, py, PyData.eqv])
def inD (d : Dv) (xs : List Dv) : Bool := xs.any fun e => PyData.eqv (py e) (py d)
theorem fls_ok {M : Addr → Prop} {H : Hp} {d : Dv} {v : V} (h : flD d = true) (hd : Dat M H d v) : ∀ {xs : List Dv} {vs : List V}, xs.all flD = true → Dats M H xs vs → vs.all flatV = true ∧ inV v vs = inD d xs
  | [], vs, _, hs => by
    unfold Dats at hs
    subst hs
    exact ⟨rfl, rfl⟩
  | x :: xs, vs, hx, hs => by
    unfold Dats at hs
    obtain ⟨w, r, rfl, h1, h2⟩ := hs
    rw [List.all_cons, Bool.and_eq_true] at hx
    obtain ⟨a, b⟩ := fls_ok h hd hx.2 h2
    obtain ⟨c, e⟩ := fl_ok hx.1 h1
    refine ⟨by rw [List.all_cons, c, a]; rfl, ?_⟩
    unfold inV inD at b ⊢
    rw [List.any_cons, List.any_cons, b, e _ _ h hd]
def gIn (neg : Bool) (env : DEnv) (x y : RV) : Option RV := (look env x).bind fun d => (asSeq env y).bind fun xs => if flD d = true ∧ xs.all flD = true then some (.d (.bl (if neg = true then !inD d xs else inD d xs))) else none
theorem dat_false {M : Addr → Prop} {H : Hp} {d : Dv} {v : V} (h : Dat M H d v) : Dat (fun _ => False) H d v := h.to (fun _ _ _ q => q) fun _ z => z.elim
theorem dats_false {M : Addr → Prop} {H : Hp} {d : List Dv} {v : List V} (h : Dats M H d v) : Dats (fun _ => False) H d v := Dats.to (fun _ _ _ q => q) (fun _ z => z.elim) _ _ h
theorem rb_in {K : PySem.W.Frag} {neg : Bool} : RB (rIn K neg) (gIn neg) := fun C env σ H Q x y vx vy z h R rx ry k => by
  unfold gIn at h
  obtain ⟨d, h1, h⟩ := Option.bind_eq_some_iff.mp h
  obtain ⟨xs, h2, h⟩ := Option.bind_eq_some_iff.mp h
  split at h
  · rename_i c
    cases h
    obtain ⟨a, vs, rfl, hs, hd⟩ := asSeq_ok (K := K) R ry h2
    have dx := look_ok R rx h1
    obtain ⟨c1, c2⟩ := fls_ok c.1 dx c.2 (dats_false hd)
    refine ⟨a, vs, rfl, hs, (fl_ok c.1 dx).1, c1, ?_⟩
    rw [c2]
    exact fin_bl R k
  · cases h
/-- in, not in a tuple of the module -/
def fInK (neg : Bool) (xs : List Dv) (fa : EF) : EF := fun env => (fa env).bind fun p => (look p.2 p.1).bind fun d => if flD d = true ∧ xs.all flD = true then some (.d (.bl (if neg = true then !inD d xs else inD d xs)), p.2) else none
theorem re_inK {K : PySem.W.Frag} {neg : Bool} {a : Addr} {xs : List Dv} {vs : List V} {ta : TE} {fa : EF} (hS : ∀ H, SqT K H a vs) (hv : ∀ H, Dats (fun _ => False) H xs vs) (ha : RE ta fa) : RE (tOp (rIn K neg) ta (tC (.ref a))) (fInK neg xs fa) := fun C env σ H Q rv env' h R k => by
  unfold fInK at h
  obtain ⟨⟨x, e1⟩, h1, h⟩ := Option.bind_eq_some_iff.mp h
  obtain ⟨d, h2, h⟩ := Option.bind_eq_some_iff.mp h
  split at h
  · rename_i c
    cases h
    refine ha C env σ H _ x e1 h1 R fun vx H1 R1 s1 g1 r1 => ?_
    have dx := look_ok R1 r1 h2
    obtain ⟨c1, c2⟩ := fls_ok c.1 dx c.2 (hv H1)
    refine ⟨a, vs, rfl, .inr (hS H1), (fl_ok c.1 dx).1, c1, ?_⟩
    rw [c2]
    exact k _ H1 R1 s1 g1 (show Dat (MM C e1 σ) H1 (.bl _) _ by unfold Dat; rfl)
  · cases h
end DL

set_option Elab.async false
set_option linter.all false
set_option maxRecDepth 100000
set_option maxHeartbeats 4000000
/-! texts: methods, joining, list(text), x.pop(i), x[::-1] -/
namespace DL
open PySem L2 PyProof.Rows
def asS (env : DEnv) (rv : RV) : Option Str := match val env rv with
  | some (.str s) => some s
  | _ => none
theorem asS_ok {C : DC} {env : DEnv} {σ : L2.St} {H : Hp} {rv : RV} {v : V} (R : Rel C env σ H) (r : RVr C env σ H rv v) {s : Str} (h : asS env rv = some s) : v = .str s := by
  unfold asS at h
  split at h
  · rename_i c e
    cases h
    exact val_str R r e
  · cases h
/-- a method of a text -/
def fSM (g : Str → DEnv → List RV → Option RV) (fo : EF) (fa : AF) : EF := fun env => (fo env).bind fun p => (asS p.2 p.1).bind fun a => (fa p.2).bind fun q => (g a q.2 q.1).map fun z => (z, q.2)
def RM (r : V → List V → Hp → VK → Prop) (g : Str → DEnv → List RV → Option RV) : Prop := ∀ (C : DC) (env : DEnv) (σ : L2.St) (H : Hp) (Q : VK) (a : Str) (xs : List RV) (vs : List V) (z : RV), g a env xs = some z → Rel C env σ H → RVs C env σ H xs vs →
  (∀ v H', Rel C env σ H' → Grow env σ H H' → RVr C env σ H' z v → Q v H') → r (.str a) vs H Q
theorem re_sm {K : PySem.W.Frag} {r : V → List V → Hp → VK → Prop} {g : Str → DEnv → List RV → Option RV} {to : TE} {fo : EF} {ta : TA} {fa : AF} (hr : RM r g) (ho : RE to fo) (ha : RA ta fa) : RE (tBM K "str" r to ta) (fSM g fo fa) := fun C env σ H Q rv env' h R k => by
  unfold fSM at h
  obtain ⟨⟨x, e1⟩, h1, h⟩ := Option.bind_eq_some_iff.mp h
  obtain ⟨a, h2, h⟩ := Option.bind_eq_some_iff.mp h
  obtain ⟨⟨ys, e2⟩, h3, h⟩ := Option.bind_eq_some_iff.mp h
  obtain ⟨z, h4, h⟩ := Option.map_eq_some_iff.mp h
  cases h
  refine ho C env σ H _ x e1 h1 R fun v H1 R1 s1 g1 r1 => ?_
  obtain rfl := asS_ok R1 r1 h2
  refine ⟨rfl, ha C e1 σ H1 _ ys e2 h3 R1 fun vs H2 R2 s2 g2 rs => ?_⟩
  exact hr C e2 σ H2 _ a ys vs _ h4 R2 rs fun v H3 R3 g3 r3 => k v H3 R3 (s1.trans s2) ((g1.trans s1 g2).trans (s1.trans s2) g3) r3
theorem re_m1 {r : V → List V → Hp → VK → Prop} {g : Str → DEnv → List RV → Option RV} {to te : TE} {fo fe : EF} (hr : RM r g) (ho : RE to fo) (he : RE te fe) : RE (tM1 r to te) (fSM g fo (fCons fe fNil)) := fun C env σ H Q rv env' h R k => by
  unfold fSM fCons fNil at h
  obtain ⟨⟨x, e1⟩, h1, h⟩ := Option.bind_eq_some_iff.mp h
  obtain ⟨a, h2, h⟩ := Option.bind_eq_some_iff.mp h
  obtain ⟨⟨ys, e2⟩, h3, h⟩ := Option.bind_eq_some_iff.mp h
  obtain ⟨⟨y, e3⟩, h5, h3⟩ := Option.bind_eq_some_iff.mp h3
  rw [Option.map_some] at h3
  cases h3
  obtain ⟨z, h4, h⟩ := Option.map_eq_some_iff.mp h
  cases h
  refine ho C env σ H _ x e1 h1 R fun v H1 R1 s1 g1 r1 => ?_
  obtain rfl := asS_ok R1 r1 h2
  refine ⟨⟨_, rfl⟩, he C e1 σ H1 _ y e3 h5 R1 fun w H2 R2 s2 g2 rs => ?_⟩
  exact hr C e3 σ H2 _ a [y] [w] _ h4 R2 ⟨w, [], rfl, rs, rfl⟩ fun v H3 R3 g3 r3 => k v H3 R3 (s1.trans s2) ((g1.trans s1 g2).trans (s1.trans s2) g3) r3
/-- s.strip(letters) -/
def gStrip (a : Str) (env : DEnv) : List RV → Option RV
  | [x] => (asS env x).bind fun b => if a.length ≤ szL then some (.d (.str (Txt.stripChars a b))) else none
  | _ => none
def rStrip : V → List V → Hp → VK → Prop := fun x xs H Q => ∃ a b, x = .str a ∧ xs = [.str b] ∧ a.length ≤ sizeLine ∧ Q (.str (Txt.stripChars a b)) H
theorem mtStrip {X : Cx} : MtR X "str.strip" rStrip := mt_stripChars
theorem rm_strip : RM rStrip gStrip := fun C env σ H Q a xs vs z h R rs k => by
  match xs, h with
  | [x], h =>
    obtain ⟨b, h1, h⟩ := Option.bind_eq_some_iff.mp (h : (asS env x).bind _ = some z)
    obtain ⟨v, rfl, r1⟩ := rvs1 rs
    split at h
    · rename_i hz
      cases h
      obtain rfl := asS_ok R r1 h1
      exact ⟨a, b, rfl, rfl, szL_le hz, fin_str R k⟩
    · cases h
/-- s.find(t) -/
def gFind (a : Str) (env : DEnv) : List RV → Option RV
  | [x] => (asS env x).map fun b => .d (.int (Txt.find a b))
  | _ => none
def rFind : V → List V → Hp → VK → Prop := fun x xs H Q => ∃ a b, x = .str a ∧ xs = [.str b] ∧ Q (.int (Txt.find a b)) H
theorem mtFind {X : Cx} : MtR X "str.find" rFind := mt_find
theorem rm_find : RM rFind gFind := fun C env σ H Q a xs vs z h R rs k => by
  match xs, h with
  | [x], h =>
    obtain ⟨b, h1, h⟩ := Option.map_eq_some_iff.mp (h : (asS env x).map _ = some z)
    cases h
    obtain ⟨v, rfl, r1⟩ := rvs1 rs
    obtain rfl := asS_ok R r1 h1
    exact ⟨a, b, rfl, rfl, fin_int R k⟩
/-- the texts of a list of texts -/
def txs : List Dv → Option (List Str)
  | [] => some []
  | .str s :: r => (txs r).map fun ys => s :: ys
  | _ => none
theorem txs_map (ys : List Str) : txs (ys.map .str) = some ys := by
  induction ys with
  | nil => rfl
  | cons y ys ih =>
    show (txs (ys.map .str)).map _ = _
    rw [ih]
    rfl
theorem txs_ok {M : Addr → Prop} {H : Hp} : ∀ {ds : List Dv} {ys : List Str} {vs : List V}, txs ds = some ys → Dats M H ds vs → vs = ys.map V.str
  | [], ys, vs, h, hs => by
    cases h
    unfold Dats at hs
    rw [hs]
    rfl
  | d :: ds, ys, vs, h, hs => by
    cases d <;> simp only [txs, reduceCtorEq] at h
    obtain ⟨zs, h1, h⟩ := Option.map_eq_some_iff.mp h
    subst h
    unfold Dats at hs
    obtain ⟨v, r, rfl, hv, hr⟩ := hs
    unfold Dat at hv
    subst hv
    rw [txs_ok h1 hr]
    rfl
def joinC (a : Str) (ys : List Str) : Prop := (ys.map (·.length)).sum + ys.length * a.length ≤ szL
noncomputable instance (a : Str) (ys : List Str) : Decidable (joinC a ys) := Classical.propDecidable _
noncomputable def gJoin (a : Str) (env : DEnv) : List RV → Option RV
  | [x] => (seqL env x).bind fun ds => (txs ds).bind fun ys => if joinC a ys then some (.d (.str (Txt.join a ys))) else none
  | _ => none
def rJoin (K : PySem.W.Frag) : V → List V → Hp → VK → Prop := fun x xs H Q => ∃ a p, ∃ ys : List Str, x = .str a ∧ xs = [.ref p] ∧ (SqL K H p (ys.map V.str) ∨ SqT K H p (ys.map V.str)) ∧ (ys.map (·.length)).sum + ys.length * a.length ≤ 16777216 ∧ Q (.str (Txt.join a ys)) H
theorem rm_join {K : PySem.W.Frag} : RM (rJoin K) gJoin := fun C env σ H Q a xs vs z h R rs k => by
  match xs, h with
  | [x], h =>
    obtain ⟨ds, h1, h⟩ := Option.bind_eq_some_iff.mp (h : (seqL env x).bind _ = some z)
    obtain ⟨ys, h2, h⟩ := Option.bind_eq_some_iff.mp h
    obtain ⟨v, rfl, r1⟩ := rvs1 rs
    split at h
    · rename_i hz
      cases h
      obtain ⟨p, ws, rfl, ha, hs⟩ := seqL_ok R r1 h1
      have e := txs_ok h2 hs
      subst e
      refine ⟨a, p, ys, rfl, rfl, .inl (SqL.of ha), ?_, fin_str R k⟩
      have e : szL = 16000000 := rfl
      have hz : (ys.map (·.length)).sum + ys.length * a.length ≤ szL := hz
      omega
    · cases h
/-- list(text) -/
def rListStr : List V → Hp → VK → Prop := fun xs H Q => ∃ s, xs = [.str s] ∧ s.length ≤ sizeLine ∧ ∀ l, H l = none → Q (.ref l) (upd H l (.lst (s.cps.toList.map fun c => V.str ⟨#[c]⟩)))
theorem signs_vals {s : Str} {acc : Array Value} (h : ItemsOf (SignAt s) acc s.cps.size) : Vals (s.cps.toList.map fun c => V.str ⟨#[c]⟩) acc.toList := by
  obtain ⟨hz, h⟩ := h
  have key : ∀ (l : List Nat) (r : List Value), l.length = r.length → (∀ (j : Nat) v, r[j]? = some v → ∃ c u, l[j]? = some c ∧ v = Value.str ⟨#[c]⟩ u) → Vals (l.map fun c => V.str ⟨#[c]⟩) r := by
    intro l
    induction l with
    | nil =>
      intro r hl _
      cases r with
      | nil => exact .nil
      | cons _ _ => cases hl
    | cons c l ih =>
      intro r hl hq
      cases r with
      | nil => cases hl
      | cons v r =>
        obtain ⟨d, u, e1, e2⟩ := hq 0 v rfl
        cases e1
        subst e2
        exact .cons ⟨u, rfl⟩ (ih r (by simpa using hl) fun j w e => hq (j + 1) w e)
  refine key _ _ (by simpa using hz.symm) fun j v e => ?_
  obtain ⟨c, u, e1, e2⟩ := h j v (by simpa using e)
  exact ⟨c, u, by simpa using e1, e2⟩
theorem callListStr {X : Cx} (hc : X.calm = true) : CallR X (.type "list") rListStr := by
  intro pins s σ H xs us Q I r h
  obtain ⟨x, rfl, hl, q⟩ := h
  obtain ⟨u, rfl, r1⟩ := vals1 r
  obtain ⟨t, rfl⟩ := r1
  have hl2 : x.cps.size ≤ sizeLine := hl
  refine call_list_str (I.ok.hd hc) x t (fun h' tk acc c' keep at' items => ?_) hl2
  refine ⟨.ref s.heap.objs.size, _, I.laid (t' := tk) keep (Nat.le_refl _) ?_, rfl, q _ (I.hok.fresh (Nat.le_refl _))⟩
  exact ⟨by simpa using hl2, acc.toList, c', signs_vals items, by simpa using at'⟩
def chars (s : Str) : List Dv := s.cps.toList.map fun c => .str ⟨#[c]⟩
theorem dats_chars {M : Addr → Prop} {H : Hp} (l : List Nat) : Dats M H (l.map fun c => .str ⟨#[c]⟩) (l.map fun c => V.str ⟨#[c]⟩) := by
  induction l with
  | nil => exact .nil
  | cons c l ih => exact .cons (by unfold Dat; rfl) ih
/-- list(text) for an own slot -/
def lChars (fa : EF) : LF := fun env => (fa env).bind fun p => (asS p.2 p.1).bind fun s => if s.length ≤ szL then some (chars s, p.2) else none
theorem rl_chars {ta : TE} {fa : EF} (ha : RE ta fa) : RL (tCB rListStr (tCons ta tNil)) (lChars fa) := fun C env σ H Q xs env' h R k => by
  unfold lChars at h
  obtain ⟨⟨x, e1⟩, h1, h⟩ := Option.bind_eq_some_iff.mp h
  obtain ⟨s, h3, h⟩ := Option.bind_eq_some_iff.mp h
  split at h
  case isFalse => cases h
  rename_i hz
  cases h
  refine ha C env σ H _ x e1 h1 R fun v H1 R1 s1 g1 r1 => ?_
  obtain rfl := asS_ok R1 r1 h3
  refine ⟨s, rfl, szL_le hz, fun p np => ?_⟩
  refine k p _ _ (fun d v q => (dat_plus s1 g1 np q).to (fun a u _ q => by rw [upd_ne (ne_of_none q np)]; exact q) fun _ z => .inl z) (R1.h0 np) (fun z => R1.mem p z np) (R1.plus np _) s1 (g1.trans s1 (Grow.new np)) upd_same (dats_chars _)
/-- a new list from a def -/
def fNewR (n : Nat) (F : List Dv → Option (List Dv)) (fa : AF) : LF := fun env => (fa env).bind fun p => (frzs p.2 p.1).bind fun q => if q.1.length = n then (F q.1).map fun xs => (xs, q.2) else none
theorem rl_call {n : Nat} {F : List Dv → Option (List Dv)} {E : XK} {ta : TA} {fa : AF} (ha : RA ta fa) :
    RL (tCall (spL n F) [] E ta) (fNewR n F fa) := fun C env σ H Q xs env' h R k => by
  unfold fNewR at h
  obtain ⟨⟨rs, e1⟩, h1, h⟩ := Option.bind_eq_some_iff.mp h
  obtain ⟨⟨ds, e2⟩, h2, h⟩ := Option.bind_eq_some_iff.mp h
  split at h
  case isFalse => cases h
  rename_i hn
  obtain ⟨ys, h3, h⟩ := Option.map_eq_some_iff.mp h
  cases h
  refine ha C env σ H _ rs e1 h1 R fun vs H1 R1 s1 g1 r1 => ?_
  rw [List.append_nil]
  obtain ⟨R2, s2, d2⟩ := frzs_ok R1 r1 h2
  refine ⟨MM C e2 σ, ds, _, h3, by rw [d2.length]; exact hn, d2, fun a q => R2.memM a q, fun p ws H' np hp keep hs => ?_⟩
  have kp : ∀ a o, (upd H1 p (.lst ws)) a = some o → H' a = some o := fun a o q => by
    by_cases z : a = p
    · subst z
      rw [upd_same] at q
      rw [hp, q]
    · rw [upd_ne z] at q
      exact keep a o q
  have R3 := (R2.plus np (.lst ws)).grow kp
  refine k p ws H' (fun d v q => (dat_plus (s1.trans s2) (g1.trans s1 (Grow.refl _ _ _)) np q).to (fun a u _ q => keep a u q) fun _ z => .inl z) (R2.h0 np) (fun z => R2.mem p z np) R3 (s1.trans s2) (g1.trans s1 fun a o _ q => keep a o q) hp ?_
  refine Dats.to (fun _ _ _ q => q) (fun a z => .inl ?_) _ _ hs
  rcases z with (z | z) | z
  · exact .inl (.inl z)
  · exact .inr z
  · exact .inl (.inr z)
/-- f(..).append(x): the new list is dropped -/
def sNewApp (f : LF) (fe : EF) : SF := fun env => (f env).bind fun w => (fe w.2).bind fun p => if w.1.length < szL then some (.nx p.2) else none
theorem rs_newApp {K : PySem.W.Frag} {t te : TE} {f : LF} {fe : EF} (hf : RL t f) (he : RE te fe) : RS (tDrop (tBM K "list" rAppend t (tCons te tNil))) (sNewApp f fe) := fun C env σ H D o h R k => by
  unfold sNewApp at h
  obtain ⟨⟨xs, e1⟩, h1, h⟩ := Option.bind_eq_some_iff.mp h
  obtain ⟨⟨y, e2⟩, h2, h⟩ := Option.bind_eq_some_iff.mp h
  split at h
  case isFalse => cases h
  rename_i hz
  cases h
  refine hf C env σ H _ xs e1 h1 R fun p vs H1 _ h0 hm R1 s1 g1 hp hs => ?_
  refine ⟨.inl ⟨rfl, vs, SqL.of hp⟩, ?_⟩
  refine he (C.plus p) e1 σ H1 _ y e2 h2 R1 fun v H2 R2 s2 g2 r2 => ?_
  have nw : ¬ W e1 σ p := R1.notW hm R.hio
  have hp2 : H2 p = some (.lst vs) := g2 p _ nw hp
  refine ⟨p, vs, v, rfl, rfl, hp2, by rw [hs.length]; exact szL_lt hz, ?_⟩
  exact k σ _ ((R2.putD (fun z => nw (s2.w z)) hm h0 ⟨_, hp2⟩).unplus R.hio)
theorem Dats.eraseIdx {M : Addr → Prop} {H : Hp} : ∀ {ds : List Dv} {vs : List V} (j : Nat), Dats M H ds vs → Dats M H (ds.eraseIdx j) (vs.eraseIdx j)
  | [], vs, j, h => by
    unfold Dats at h
    subst h
    exact .nil
  | d :: ds, vs, 0, h => by
    unfold Dats at h
    obtain ⟨v, r, rfl, _, h2⟩ := h
    exact h2
  | d :: ds, vs, j + 1, h => by
    unfold Dats at h
    obtain ⟨v, r, rfl, h1, h2⟩ := h
    exact .cons h1 (Dats.eraseIdx j h2)
/-- a method of a built-in type, the written part named apart (for comprehensions) -/
theorem pe_bmK {X : Cx} {K : PySem.W.Frag} {o e : Expr} {es : List Expr} {to : TE} {t : TA} {name : Str} {apos cpos : Pos} {T id : String} {r : V → List V → Hp → VK → Prop} (h1 : PlainAttrs T) (h2 : PySem.Slot T name id) (h3 : typeOf (Value.builtin id) = pure (Value.type "method_descriptor")) (hm : MtR X id r) (ho : PE X o to) (ha : PA X (e :: es) t) (hK : X.K = K := by rfl)
    (a1 : attributeBase o name X.env (eval o X.env) = eval o X.env := by rfl)
    (a2 : (((((backTo cpos (starEach (e :: es) X.env)).all fun x => !x.fst) && (backToKw cpos (keywordEach [] X.env)).all fun x => x.fst.isSome) && decide (((e :: es).length + ([] : List PySem.Keyword).length + if ([] : List PySem.Keyword).isEmpty = true then 0 else 1) < 30)) = true) := by rfl)
    (a3 : (apos.endLine == cpos.line) = true := by rfl) (a4 : starEach (e :: es) X.env = (false, eval e X.env) :: starEach es X.env := by rfl) (a5 : (backTo cpos (starEach es X.env)).any (·.1) = false := by rfl) :
    PE X ((o.Attribute name apos).Call (e :: es) [] cpos) (tBM K T r to t) := hK ▸ pe_bm h1 h2 h3 hm ho ha a1 a2 a3 a4 a5
theorem mtPopAt {X : Cx} : MtR X "list.pop" rPopAt := mt_popAt
/-- x.pop(i) -/
def popC (n : Int) : Prop := -(2 ^ 63) ≤ n ∧ n < 2 ^ 63
noncomputable instance (n : Int) : Decidable (popC n) := Classical.propDecidable _
noncomputable def fPopAt (i : Nat) (fe : EF) : EF := fun env => (ownL env i).bind fun _ => (fe env).bind fun p => (asI p.2 p.1).bind fun n => (ownL p.2 i).bind fun w => if popC n then (seqIndex? n w.2.length).bind fun j => (w.2[j]?).map fun d => (.d d, p.2.set i (.own w.1 (w.2.eraseIdx j))) else none
theorem re_popAt {K : PySem.W.Frag} {i : Nat} {te : TE} {fe : EF} (he : RE te fe) : RE (tBM K "list" rPopAt (tVar i) (tCons te tNil)) (fPopAt i fe) := fun C env σ H Q rv env' h R k => by
  unfold fPopAt at h
  obtain ⟨⟨b0, zs⟩, h0, h⟩ := Option.bind_eq_some_iff.mp h
  obtain ⟨⟨x, e1⟩, h1, h⟩ := Option.bind_eq_some_iff.mp h
  obtain ⟨n, h2, h⟩ := Option.bind_eq_some_iff.mp h
  obtain ⟨⟨b, xs⟩, h3, h⟩ := Option.bind_eq_some_iff.mp h
  split at h
  case isFalse => cases h
  rename_i hn
  obtain ⟨j, h4, h⟩ := Option.bind_eq_some_iff.mp h
  obtain ⟨d, h5, h⟩ := Option.map_eq_some_iff.mp h
  cases h
  have w2 := ownL_ok h3
  obtain ⟨a, vs, q1, q2, q3⟩ := R.own i (.lst _) _ (ownL_ok h0)
  refine ⟨.ref a, q1, .inl ⟨rfl, vs, SqL.of q2⟩, ?_⟩
  refine he C env σ H _ x e1 h1 R fun v H1 R1 s1 g1 r1 => ?_
  obtain ⟨a', ws, z1, z2, z3⟩ := R1.own i (.lst b) xs w2
  rw [q1] at z1
  cases z1
  obtain ⟨v', y1, y2⟩ := z3.get h5
  obtain ⟨R2, s2, g2⟩ := R1.put w2 q1 (z3.eraseIdx j)
  refine ⟨a, ws, n, j, v', rfl, by rw [asI_ok R1 r1 h2], z2, hn.1, hn.2, by rw [z3.length]; exact h4, y1, ?_⟩
  exact k v' _ R2 (s1.trans s2) (g1.trans s1 g2) (g2.dat s2 y2)
/-- xs[::-1] -/
def gRev (env : DEnv) (x : RV) : Option RV := (seqL env x).map fun xs => .d (.lst xs.reverse)
theorem Dats.reverse {M : Addr → Prop} {H : Hp} : ∀ {ds : List Dv} {vs : List V}, Dats M H ds vs → Dats M H ds.reverse vs.reverse
  | [], vs, h => by
    unfold Dats at h
    subst h
    exact .nil
  | d :: ds, vs, h => by
    unfold Dats at h
    obtain ⟨v, r, rfl, h1, h2⟩ := h
    rw [List.reverse_cons, List.reverse_cons]
    exact (Dats.reverse h2).app (.one h1)
theorem re_rev {K : PySem.W.Frag} {te : TE} {fe : EF} (he : RE te fe) : RE (tRevL K te) (fUn gRev fe) := fun C env σ H Q rv env' h R k => by
  unfold fUn gRev at h
  obtain ⟨⟨x, e1⟩, h1, h⟩ := Option.bind_eq_some_iff.mp h
  obtain ⟨z, h2, h⟩ := Option.map_eq_some_iff.mp h
  cases h
  obtain ⟨xs, h3, h2⟩ := Option.map_eq_some_iff.mp h2
  cases h2
  refine he C env σ H _ x e1 h1 R fun v H1 R1 s1 g1 r1 => ?_
  obtain ⟨a, vs, rfl, ha, hs⟩ := seqL_ok R1 r1 h3
  exact ⟨a, vs, rfl, SqL.of ha, fin_lst R1 (fun v H2 R2 g2 r2 => k v H2 R2 s1 (g1.trans s1 g2) r2) hs.reverse⟩
/-! ### sum of a tuple -/
def rSumT (K : PySem.W.Frag) : List V → Hp → VK → Prop := fun vs H Q => ∃ (a : Addr) (ns : List Int), vs = [V.ref a] ∧ SqT K H a (ns.map V.int) ∧ Q (.int ns.sum) H
theorem preSum_list : ∀ (ns : List Int) (f : Nat → Int) (n : Nat), ns.length = n → (∀ i, i < n → ns[i]? = some (f i)) → preSum f n = ns.sum := by
  intro ns f n
  induction n generalizing ns with
  | zero =>
    intro h _
    rw [List.length_eq_zero_iff.mp h]
    rfl
  | succ n ih =>
    intro h k
    have e : ns = ns.take n ++ [f n] := by
      have h1 := k n (by omega)
      obtain ⟨h2, h3⟩ := List.getElem?_eq_some_iff.mp h1
      rw [← h3, ← List.take_succ_eq_append_getElem h2, List.take_of_length_le (by omega)]
    have h4 := ih (ns.take n) (by rw [List.length_take]; omega) fun i hi => by
      rw [List.getElem?_take, if_pos hi]
      exact k i (by omega)
    have e2 : ns.sum = (ns.take n).sum + f n := by
      have := congrArg List.sum e
      rw [List.sum_append] at this
      simpa using this
    show preSum f n + f n = _
    rw [h4, e2]
theorem callSumT {X : Cx} (hc : X.calm = true) : CallR X (.builtin "sum") (rSumT X.K) := by
  intro pins s σ H xs us Q I r h
  obtain ⟨a, ns, rfl, hT, q⟩ := h
  obtain ⟨u, rfl, r1⟩ := vals1 r
  cases r1
  obtain ⟨its, r, ⟨⟨cls, dd, data, sl⟩, ho, hcl, n, hd⟩, hs⟩ := I.tuple hT
  simp only at hcl hd
  subst hcl hd
  have ht : s.heap.IsTuple a its.toArray := ⟨_, ho, rfl, n, rfl⟩
  have lt : ∀ {b : Addr} {o : Obj}, s.heap.get? b = some o → b < s.heap.objs.size := fun {b o} e => Nat.lt_of_not_le fun z => by
    unfold PySem.Heap.get? at e
    rw [Array.getElem?_eq_none z] at e
    cases e
  have old : ∀ {h' : Heap} {x : Obj}, (∀ (b : Addr) (o : Obj), ¬ b ∈ [s.heap.objs.size] → (s.heap.push x).get? b = some o → h'.get? b = some o) → ∀ b o, s.heap.get? b = some o → h'.get? b = some o := fun {h' x} k b o e => k b o (fun z => by
    have := lt e
    rw [List.mem_singleton.mp z] at this
    exact Nat.lt_irrefl _ this) (Heap.get?_push_of_some _ e)
  have self : (s.heap.push { cls := Value.type "tuple_iterator", data := Data.fields #[Value.ref a, Value.int 0 0] }).get? s.heap.objs.size = some { cls := Value.type "tuple_iterator", data := Data.fields #[Value.ref a, Value.int 0 0] } := by
    unfold PySem.Heap.get? PySem.Heap.push
    simp
  have hl : ns.length = its.length := by
    have := r.length
    simpa using this
  refine call_sum_walkG (wpAny_pyIter_tuple ht ?_)
  refine ⟨s.heap.objs.size, [s.heap.objs.size, a], [s.heap.objs.size], its.toArray.size, fun i v => its.toArray[i]? = some v, fun i h => h.IsTupleIter s.heap.objs.size a i ∧ h.IsTuple a its.toArray, fun i => ns.getD i 0, rfl, Walks.tuple (A := X.A.in1) (I.ok.hd hc) _ _ (Nat.ne_of_lt (lt ho)) _, ⟨⟨_, self, rfl, rfl⟩, ⟨_, Heap.get?_push_of_some _ ho, rfl, n, rfl⟩⟩, ?_, ?_, fun h' tk t' keep => ⟨.int ns.sum, H, I.kept (t' := tk) (old keep), ⟨t', ?_⟩, q⟩⟩
  · intro b hb
    have hs : (s.heap.push { cls := Value.type "tuple_iterator", data := Data.fields #[Value.ref a, Value.int 0 0] }).objs.size = s.heap.objs.size + 1 := by simp [Heap.push]
    have := lt ho
    simp only [List.mem_cons, List.not_mem_nil, or_false] at hb
    rcases hb with rfl | rfl
    · rw [hs]; exact Nat.lt_succ_self _
    · rw [hs]; exact Nat.lt_succ_of_lt this
  · intro i v hv
    have hv : its[i]? = some v := by simpa using hv
    have hi := (List.getElem?_eq_some_iff.mp hv).1
    obtain ⟨z, hz⟩ : ∃ z, ns[i]? = some z := ⟨_, List.getElem?_eq_getElem (by omega)⟩
    have key : ∀ (ns : List Int) (its : List Value) (i : Nat) (v : Value), Vals (ns.map V.int) its → its[i]? = some v → ∃ t, v = Value.int (ns.getD i 0) t := by
      intro ns
      induction ns with
      | nil =>
        intro its i v r e
        cases r
        simp at e
      | cons b ns ih =>
        intro its i v r e
        cases r with
        | cons r1 r2 =>
          cases i with
          | zero =>
            cases e
            exact r1
          | succ i => exact ih _ i v r2 e
    exact key ns its i v r hv
  · rw [preSum_list ns _ _ (by simpa using hl) fun i hi => ?_]
    rw [List.getD_eq_getElem?_getD, List.getElem?_eq_getElem (by simp at hi; omega)]
    rfl
def rSumU (K : PySem.W.Frag) : List V → Hp → VK → Prop := fun vs H Q => rSum K vs H Q ∨ rSumT K vs H Q
theorem callSumU {X : Cx} (hc : X.calm = true) : CallR X (.builtin "sum") (rSumU X.K) := fun pins s σ H xs us Q I r h => h.elim (cr_sum hc pins s σ H xs us Q I r) (callSumT hc pins s σ H xs us Q I r)
def gSumU (env : DEnv) (x : RV) : Option RV := (asSeq env x).bind fun xs => (intL xs).map fun ns => .d (.int ns.sum)
theorem rc_sumU {K : PySem.W.Frag} : RC (rSumU K) (g1 gSumU) := rc_1 fun C env σ H Q x v z h R r k => by
  unfold gSumU at h
  obtain ⟨xs, e, h⟩ := Option.bind_eq_some_iff.mp h
  obtain ⟨ns, e2, h⟩ := Option.map_eq_some_iff.mp h
  cases h
  obtain ⟨a, vs, rfl, ha, hs⟩ := asSeq_ok (K := K) R r e
  obtain rfl := intL_ok e2
  rw [hs.ints] at ha
  exact ha.imp (fun ha => ⟨a, ns, rfl, ha, fin_int R k⟩) (fun ha => ⟨a, ns, rfl, ha, fin_int R k⟩)
section
variable {env : DEnv}
@[simp] theorem e_sm {g : Str → DEnv → List RV → Option RV} {fo : EF} {fa : AF} : fSM g fo fa env = (fo env).bind fun p => (asS p.2 p.1).bind fun a => (fa p.2).bind fun q => (g a q.2 q.1).map fun z => (z, q.2) := rfl
@[simp] theorem e_newR {n : Nat} {F : List Dv → Option (List Dv)} {fa : AF} : fNewR n F fa env = (fa env).bind fun p => (frzs p.2 p.1).bind fun q => if q.1.length = n then (F q.1).map fun xs => (xs, q.2) else none := rfl
@[simp] theorem e_newApp {f : LF} {fe : EF} : sNewApp f fe env = (f env).bind fun w => (fe w.2).bind fun p => if w.1.length < szL then some (.nx p.2) else none := rfl
@[simp] theorem e_popAt {i : Nat} {fe : EF} : fPopAt i fe env = (ownL env i).bind fun _ => (fe env).bind fun p => (asI p.2 p.1).bind fun n => (ownL p.2 i).bind fun w => if popC n then (seqIndex? n w.2.length).bind fun j => (w.2[j]?).map fun d => (.d d, p.2.set i (.own w.1 (w.2.eraseIdx j))) else none := rfl
@[simp] theorem e_lchars {fa : EF} : lChars fa env = (fa env).bind fun p => (asS p.2 p.1).bind fun s => if s.length ≤ szL then some (chars s, p.2) else none := rfl
@[simp] theorem e_pop {i : Nat} : fPop i env = (ownL env i).bind fun w => (w.2[w.2.length - 1]?).map fun d => (.d d, env.set i (.own w.1 w.2.dropLast)) := rfl
@[simp] theorem e_runL {n : Nat} {f : LF} {ds : List Dv} : runL n f ds = (f (ds.map .dat ++ List.replicate (n - ds.length) .non)).bind fun p => if bare p.2 = true then some p.1 else none := rfl
end
end DL

set_option Elab.async false
set_option linter.all false
set_option maxRecDepth 100000
set_option maxHeartbeats 4000000
/-! Instances of the program's own classes: made, read, asked, compared; held as data. -/
namespace DG
open PySem L2 PySem.Spec PyProof.Rows
section
variable {X : Cx} {CT : CXT} {k : Nat} {f C : Addr} {fd : FuncData} {ps : List Str} {sp : Sp} {dvs : List V} {ds : List Value} {E : XK} {x m : Str} {p pos apos : Pos} {e o : Expr} {es : List Expr} {ta : TE} {t : TA}
theorem meth_g {pl : Sem Bool} (he : PE X o ta) (c : Cls X.K C) (hm : Meth X.K C m f) (F : FnG X.prog X.w X.K X.mg X.base CT k f fd ps sp) (g : X.A.guards = some []) (hr : Room k X.A) (hb : Binds X.K fd ps ds) (hd : Vals dvs ds) (hx : Passes CT X E) (ha : PA X (e :: es) t)
    (hst : starEach (e :: es) X.env = (false, eval e X.env) :: starEach es X.env := by rfl) (hpl : (backTo pos (starEach es X.env)).any (·.1) = false := by rfl)
    (ht : eval (.Call (.Attribute o m apos) (e :: es) [] pos) X.env = (do
      let ov ← eval o X.env
      standAt apos.atName
      let (f, first) ← holding [ov] (getMethod ov m pl)
      callWith pos f first (backTo pos (starEach (e :: es) X.env)) (backToKw pos (keywordEach [] X.env))) := by rfl) :
    PE X (.Call (.Attribute o m apos) (e :: es) [] pos) (tMeth C m sp dvs E ta t) := by
  refine ⟨fun pins s σ H Q I h => ?_⟩
  refine PySem.W.methodCall_KW (pl := pl) (thn (he.run pins s σ H _ I h) fun u s1 ⟨x, H1, I1, rx, a, dx, fs, ex, ea, l, q⟩ => ?_) ht
  subst ex
  obtain rfl : u = Value.ref a := rx
  refine getmeth_ok I1 ea c hm l ?_
  refine PySem.W.callWith_K (first := [.ref a]) (h₀ := X.base) I.ok.mod.kin hm.kp (thn (ha.run pos pins s1 σ H1 _ I1 q) fun us s2 ⟨vs, H2, I2, r, q2⟩ => ⟨I2.kIn, ?_⟩) hst hpl
  exact run_g (us := .ref a :: us) (vs := .ref a :: vs) F g hr hb hd hx I2 (.cons rfl r) q2
theorem meth0_g {pl : Sem Bool} (he : PE X o ta) (c : Cls X.K C) (hm : Meth X.K C m f) (F : FnG X.prog X.w X.K X.mg X.base CT k f fd ps sp) (g : X.A.guards = some []) (hr : Room k X.A) (hb : Binds X.K fd ps ds) (hd : Vals dvs ds) (hx : Passes CT X E)
    (ht : eval (.Call (.Attribute o m apos) [] [] pos) X.env = (do
      let ov ← eval o X.env
      standAt apos.atName
      let (f, first) ← holding [ov] (getMethod ov m pl)
      callWith pos f first (backTo pos (starEach [] X.env)) (backToKw pos (keywordEach [] X.env))) := by rfl) :
    PE X (.Call (.Attribute o m apos) [] [] pos) (tMeth C m sp dvs E ta tNil) := by
  refine ⟨fun pins s σ H Q I h => ?_⟩
  refine PySem.W.methodCall_KW (pl := pl) (thn (he.run pins s σ H _ I h) fun u s1 ⟨x, H1, I1, rx, a, dx, fs, ex, ea, l, q⟩ => ?_) ht
  subst ex
  obtain rfl : u = Value.ref a := rx
  refine getmeth_ok I1 ea c hm l ?_
  exact PySem.W.callWith_K0 (first := [.ref a]) I1.kIn hm.kp (run_g (us := [.ref a]) (vs := [.ref a]) F g hr hb hd hx I1 (.cons rfl .nil) q)
theorem guards_under {A : Around} {ar : Args} (h : A.guards = some []) : (A.under (.builtin "type.__call__" ar)).guards = some [] := by
  unfold Around.under
  simp only [h]
  first | rfl | decide +kernel | simp [Code.guards, pushGuards, Code.isGuard, guardIds]
theorem run_make_g {pins : List (Addr × Obj)} {σ : L2.St} {H : Hp} {s : Shared} {Q : VK} {us : List Value} {vs : List V} (M : Mk X.K C f) (F : FnG X.prog X.w X.K X.mg X.base CT k f fd ps sp) (g : X.A.guards = some []) (hr : Room (k + 1) X.A) (hb : Binds X.K fd ps ds) (hd : Vals dvs ds)
    (hx : Passes CT X E) (I : Inv X pins σ H s) (r : Vals vs us)
    (h : ∀ x dx, H x = none → H dx = none → dx ≠ x → sp (.ref x :: (vs ++ dvs)) (upd (upd H dx (.own x)) x (.ins C dx [])) (fun v H2 => v = .non ∧ Q (.ref x) H2) E) :
    wpAny (model X.prog X.w) X.A (call (.ref C) us) (EP X pins σ Q) X.xe s := by
  have hq := h (s.heap.objs.size + 1) s.heap.objs.size (I.hok.fresh (Nat.le_succ _)) (I.hok.fresh (Nat.le_refl _)) (Nat.ne_of_lt (Nat.lt_succ_self _))
  have I2 := Inv.made (C := C) I
  have r2 : Vals (V.ref (s.heap.objs.size + 1) :: (vs ++ dvs)) (Value.ref (s.heap.objs.size + 1) :: (us ++ ds)) := .cons rfl (r.append hd)
  have hl : (Value.ref (s.heap.objs.size + 1) :: us ++ ds).length = ps.length := by
    have e := r2.length
    rw [F.len _ _ _ _ hq] at e
    exact e.symm
  refine wpAny_call (make_map (f := f) I.kIn M.makes M.init (beq_iff_eq.mp M.fn) (codeAny_mono (F.run _ X.stack _ _ ⟨Value.ref (s.heap.objs.size + 1) :: us, []⟩ (Value.ref (s.heap.objs.size + 1) :: (us ++ ds)) _ _ E (guards_under g) (hr.make C us [])
    (I2.env0.make C us []) (hb _ (Value.ref (s.heap.objs.size + 1) :: us) I2.kIn hl) r2 hq) fun r s' hq' => ?_))
  cases r with
  | error e => exact hx pins σ _ _ e s' I2 hq'
  | ok fl =>
    cases fl with
    | ret u =>
      obtain ⟨v, H', I3, rv, ev, q3⟩ := I2.after hq'
      subst ev
      exact ⟨rv, ⟨V.ref (s.heap.objs.size + 1), H', I3, rfl, q3⟩⟩
    | next => exact False.elim hq'
    | brk => exact False.elim hq'
    | cont => exact False.elim hq'
theorem make_g (M : Mk X.K C f) (F : FnG X.prog X.w X.K X.mg X.base CT k f fd ps sp) (g : X.A.guards = some []) (hr : Room (k + 1) X.A) (hg : Gl X x) (hm : X.mg x = some (.ref C)) (hb : Binds X.K fd ps ds) (hd : Vals dvs ds) (hx : Passes CT X E)
    (ha : PA X (e :: es) t) (hdb : (x == ("__debug__" : Str)) = false := by decide) (he : starEach (e :: es) X.env = (false, eval e X.env) :: starEach es X.env := by rfl) (hpl : (backTo pos (starEach es X.env)).any (·.1) = false := by rfl) :
    PE X (.Call (.Name x p) (e :: es) [] pos) (tMake C sp dvs E t) := by
  refine ⟨fun pins s σ H Q I h => ?_⟩
  refine wpAny_Call_Name_kw (ld_glob I hg hm ?_ hdb)
  refine PySem.W.callWith_K (h₀ := X.base) I.ok.mod.kin M.kp (thn (ha.run pos pins s σ H _ I h) fun us s1 ⟨vs, H1, I1, r, q⟩ => ⟨I1.kIn, ?_⟩) he hpl
  exact run_make_g M F g hr hb hd hx I1 r q
/-- == of two instances, by the class's own -/
def rEqO (C : Addr) (sp : Sp) (E : XK) : R2 := fun x y H Q => ∃ a b dx dy fs gs, x = .ref a ∧ y = .ref b ∧ H a = some (.ins C dx fs) ∧ H b = some (.ins C dy gs) ∧ sp [x, y] H (fun v H' => (∃ r, v = .bl r) ∧ Q v H') E
theorem op_eqO (F : FnG X.prog X.w X.K X.mg X.base CT k f fd ps sp) (g : X.A.guards = some []) (hr : Room k X.A)
    (hs : PySem.W.findIn X.K (.ref C) "__eq__" = some (some (.ref f))) (hf : PySem.W.isFn X.K (.ref f) = true) (hb : Binds X.K fd ps []) (hx : Passes CT X E) : OpR X (compareOp .Eq) (rEqO C sp E) := by
  intro pins s σ H x y v u Q I rx ry hq
  obtain ⟨a, b, dx, dy, fs, gs, rfl, rfl, ha, hb', hsp⟩ := hq
  cases rx
  cases ry
  show wpAny (model X.prog X.w) X.A (richCompare .Eq (.ref a) (.ref b)) (EP X pins σ Q) X.xe s
  obtain ⟨mA, J, _⟩ := ins_get I.hok ha
  obtain ⟨mB, J', _⟩ := ins_get I.hok hb'
  obtain ⟨od, J, _⟩ := J.look
  obtain ⟨od', J', _⟩ := J'.look
  obtain ⟨m, hF⟩ := I.fr
  refine PySem.W.cmp_K (op := .Eq) (tb := .ref C) hr.units0 hF I.ok.mod.kin J J'.type (by simp [PySem.W.notFirst]) hs hf ?_
  have hl := F.len _ _ _ _ hsp
  have r2 : Vals [V.ref a, V.ref b] [Value.ref a, Value.ref b] := .cons rfl (.cons rfl .nil)
  refine wpAny_call (codeAny_mono (F.run X.A X.stack s H ⟨[.ref a, .ref b], []⟩ [.ref a, .ref b] [.ref a, .ref b] _ E g hr I.env0 (by
    have := hb s [.ref a, .ref b] I.kIn (by simpa using hl)
    simpa using this) r2 hsp) fun r s' hq => ?_)
  cases r with
  | error e => exact hx pins σ H s e s' I hq
  | ok fl =>
    cases fl with
    | ret w =>
      obtain ⟨z, H', I', rz, ⟨r, ez⟩, q⟩ := I.after hq
      subst ez
      cases rz
      exact ⟨.bl r, H', I', rfl, q⟩
    | next => exact False.elim hq
    | brk => exact False.elim hq
    | cont => exact False.elim hq
end
end DG

set_option Elab.async false
set_option linter.all false
set_option maxRecDepth 100000
set_option maxHeartbeats 4000000
namespace DL
open PySem L2
/-! instances as data -/
section
variable {K : PySem.W.Frag} {E : XK} {ta to : TE} {fa fo : EF} {t : TA} {f : Str} {C : Addr} {ns : List Str}
/-- an attribute -/
def fFld (C : Addr) (ns : List Str) (i : Nat) (fa : EF) : EF := fun env => (fa env).bind fun p => (val p.2 p.1).bind fun d => match d with
  | .ins C' ns' ds => if C' = C ∧ ns' = ns then (ds[i]?).map fun x => (.d x, p.2) else none
  | _ => none
theorem re_fld {i : Nat} (c : Cls K C) (n : NoAttr K C f) (hl : ∀ vs : List V, vs.length = ns.length → (ns.zip vs).lookup f = vs[i]?) (ha : RE ta fa) : RE (tFld K ta f) (fFld C ns i fa) := fun C0 env σ H Q rv env' h R k => by
  unfold fFld at h
  obtain ⟨⟨x, e1⟩, h1, k1⟩ := Option.bind_eq_some_iff.mp h
  obtain ⟨d, h2, k2⟩ := Option.bind_eq_some_iff.mp k1
  clear h k1
  cases d <;> try (cases k2; done)
  rename_i C' ns' ds
  simp only at k2
  split at k2
  case isFalse => cases k2
  rename_i hc
  obtain ⟨rfl, rfl⟩ := hc
  obtain ⟨y, h3, k3⟩ := Option.map_eq_some_iff.mp k2
  cases k3
  refine ha C0 env σ H _ x _ h1 R fun vx H1 R1 s1 g1 r1 => ?_
  have hd := val_ok R1 r1 h2
  unfold Dat at hd
  obtain ⟨a, dx, vs, rfl, na, ea, hlen, hs⟩ := hd
  obtain ⟨v, hv, hdv⟩ := hs.get h3
  exact ⟨a, C', dx, ns'.zip vs, v, rfl, ea, c, n, by rw [hl vs (by rw [hs.length, hlen])]; exact hv, k v H1 R1 s1 g1 hdv⟩
/-- o.m(..) -/
def fMeth (C : Addr) (ns : List Str) (n : Nat) (F : FnF) (fo : EF) (fa : AF) : EF := fun env => (fo env).bind fun p => (val p.2 p.1).bind fun d => match d with
  | .ins C' ns' ds => if C' = C ∧ ns' = ns then (fa p.2).bind fun q => (frzs q.2 q.1).bind fun r => if r.1.length + 1 = n then (F (.dat (.ins C' ns' ds) :: r.1.map .dat)).map fun z => (.d z.1, r.2) else none else none
  | _ => none
theorem re_meth {n : Nat} {F : FnF} {m : Str} {fa : AF} (hm : ∀ vs : List V, (ns.zip vs).lookup m = none) (ho : RE to fo) (ha : RA t fa) : RE (tMeth C m (spD n F) [] E to t) (fMeth C ns n F fo fa) := fun C0 env σ H Q rv env' h R k => by
  unfold fMeth at h
  obtain ⟨⟨x, e1⟩, h1, k1⟩ := Option.bind_eq_some_iff.mp h
  obtain ⟨d, h2, k2⟩ := Option.bind_eq_some_iff.mp k1
  clear h k1
  cases d <;> try (cases k2; done)
  rename_i C' ns' ds
  simp only at k2
  split at k2
  case isFalse => cases k2
  rename_i hc
  obtain ⟨rfl, rfl⟩ := hc
  obtain ⟨⟨rs, e2⟩, h3, h⟩ := Option.bind_eq_some_iff.mp k2
  clear k2
  obtain ⟨⟨as, e3⟩, h4, h⟩ := Option.bind_eq_some_iff.mp h
  split at h
  case isFalse => cases h
  rename_i hn
  obtain ⟨⟨r, ys⟩, h5, h⟩ := Option.map_eq_some_iff.mp h
  cases h
  refine ho C0 env σ H _ x e1 h1 R fun vx H1 R1 s1 g1 r1 => ?_
  have hd := val_ok R1 r1 h2
  have hd' := hd
  unfold Dat at hd'
  obtain ⟨a, dx, vs, rfl, na, ea, hlen, hs⟩ := hd'
  refine ⟨a, dx, ns'.zip vs, rfl, ea, hm vs, ?_⟩
  refine ha C0 e1 σ H1 _ rs e2 h3 R1 fun ws H2 R2 s2 g2 r2 => ?_
  rw [List.append_nil]
  obtain ⟨R3, s3, d3⟩ := frzs_ok R2 r2 h4
  have hd2 := (Grow.refl _ _ H2).dat s3 (g2.dat s2 hd)
  have dd : Dats (MM C0 e3 σ) H2 (.ins C' ns' ds :: as) (.ref a :: ws) := .cons hd2 d3
  refine ⟨MM C0 e3 σ, none, (Dv.ins C' ns' ds :: as).map .dat, r, ys, h5, by rw [List.length_cons, d3.length]; exact hn, ⟨by rw [List.length_map]; exact dd.length, fun i d q => ?_, fun i b xs q => ?_, fun i a q => (by cases q), fun a q => R3.memM a q, nop_map⟩, fun v H' keep hr _ => ?_⟩
  · obtain ⟨d', z, q'⟩ := map_dat_get q
    cases z
    exact dd.get q'
  · obtain ⟨d', z, q'⟩ := map_dat_get q
    exact (OK.nodat z).elim
  · have kk : ∀ a o, H2 a = some o → H' a = some o := fun a o q => keep a o (fun i z => by cases z) q
    have ss := (s1.trans s2).trans s3
    exact k v H' (R3.grow kk) ss ((g1.trans s1 g2).trans (s1.trans s2) fun a o _ q => kk a o q) hr
/-- a new list from a method -/
def lMeth (C : Addr) (ns : List Str) (n : Nat) (F : List Dv → Option (List Dv)) (fo : EF) (fa : AF) : LF := fun env => (fo env).bind fun p => (val p.2 p.1).bind fun d => match d with
  | .ins C' ns' ds => if C' = C ∧ ns' = ns then (fa p.2).bind fun q => (frzs q.2 q.1).bind fun r => if r.1.length + 1 = n then (F (.ins C' ns' ds :: r.1)).map fun z => (z, r.2) else none else none
  | _ => none
theorem rl_meth {n : Nat} {F : List Dv → Option (List Dv)} {m : Str} {fa : AF} (hm : ∀ vs : List V, (ns.zip vs).lookup m = none) (ho : RE to fo) (ha : RA t fa) : RL (tMeth C m (spL n F) [] E to t) (lMeth C ns n F fo fa) := fun C0 env σ H Q xs env' h R k => by
  unfold lMeth at h
  obtain ⟨⟨x, e1⟩, h1, k1⟩ := Option.bind_eq_some_iff.mp h
  obtain ⟨d, h2, k2⟩ := Option.bind_eq_some_iff.mp k1
  clear h k1
  cases d <;> try (cases k2; done)
  rename_i C' ns' ds
  simp only at k2
  split at k2
  case isFalse => cases k2
  rename_i hc
  obtain ⟨rfl, rfl⟩ := hc
  obtain ⟨⟨rs, e2⟩, h3, h⟩ := Option.bind_eq_some_iff.mp k2
  clear k2
  obtain ⟨⟨as, e3⟩, h4, h⟩ := Option.bind_eq_some_iff.mp h
  split at h
  case isFalse => cases h
  rename_i hn
  obtain ⟨zs, h5, h⟩ := Option.map_eq_some_iff.mp h
  cases h
  refine ho C0 env σ H _ x e1 h1 R fun vx H1 R1 s1 g1 r1 => ?_
  have hd := val_ok R1 r1 h2
  have hd' := hd
  unfold Dat at hd'
  obtain ⟨a, dx, vs, rfl, na, ea, hlen, hs⟩ := hd'
  refine ⟨a, dx, ns'.zip vs, rfl, ea, hm vs, ?_⟩
  refine ha C0 e1 σ H1 _ rs e2 h3 R1 fun ws H2 R2 s2 g2 r2 => ?_
  rw [List.append_nil]
  obtain ⟨R3, s3, d3⟩ := frzs_ok R2 r2 h4
  have hd2 := (Grow.refl _ _ H2).dat s3 (g2.dat s2 hd)
  have dd : Dats (MM C0 e3 σ) H2 (.ins C' ns' ds :: as) (.ref a :: ws) := .cons hd2 d3
  have ss := (s1.trans s2).trans s3
  have gg := g1.trans s1 g2
  refine ⟨MM C0 e3 σ, _, _, h5, by rw [List.length_cons, d3.length]; exact hn, dd, fun a q => R3.memM a q, fun p us H' np hp keep hs => ?_⟩
  have kp : ∀ a o, (upd H2 p (.lst us)) a = some o → H' a = some o := fun a o q => by
    by_cases z : a = p
    · subst z
      rw [upd_same] at q
      rw [hp, q]
    · rw [upd_ne z] at q
      exact keep a o q
  have R4 := (R3.plus np (.lst us)).grow kp
  refine k p us H' (fun d v q => ?_) (R3.h0 np) (fun z => R3.mem p z np) R4 ss (gg.trans (s1.trans s2) fun a o _ q => keep a o q) hp ?_
  · exact (dat_plus ss (gg.trans (s1.trans s2) (Grow.refl _ _ H2)) np q).to (fun a u _ q => keep a u q) fun _ z => .inl z
  · refine Dats.to (fun _ _ _ q => q) (fun a z => .inl ?_) _ _ hs
    rcases z with (z | z) | z
    · exact .inl (.inl z)
    · exact .inr z
    · exact .inl (.inr z)
/-! ### a new instance -/
def spI (C : Addr) (n : Nat) (ns : List Str) (G : List Dv → Option (List Dv)) : Sp := fun vs H Q _ => ∃ (x dx : Addr) (ws : List V) (M : Addr → Prop) (ds fs : List Dv), vs = .ref x :: ws ∧ H x = some (.ins C dx []) ∧ G ds = some fs ∧ ws.length + 1 = n ∧ ns.length = fs.length ∧ Dats M H ds ws ∧ M x ∧ (∀ a, M a → H a ≠ none) ∧
  ∀ H' vs', (∀ a o, a ≠ x → H a = some o → H' a = some o) → H' x = some (.ins C dx (ns.zip vs')) → Dats M H' fs vs' → Q .non H'
theorem spI_len {n : Nat} {G : List Dv → Option (List Dv)} {vs : List V} {H : Hp} {Q : VK} {E : XK} (h : spI C n ns G vs H Q E) : vs.length = n := by
  obtain ⟨x, dx, ws, M, ds, fs, rfl, _, _, h, _⟩ := h
  exact h
def fMake (C : Addr) (ns : List Str) (n : Nat) (G : List Dv → Option (List Dv)) (fa : AF) : EF := fun env => (fa env).bind fun p => (frzs p.2 p.1).bind fun q => if q.1.length + 1 = n then (G q.1).bind fun fs => if ns.length = fs.length then some (.d (.ins C ns fs), q.2) else none else none
theorem make_keep {H1 H' : Hp} {x dx : Addr} {dc : Addr} (nx : H1 x = none) (ndx : H1 dx = none) (keep : ∀ a o, a ≠ x → (upd (upd H1 dx (.own x)) x (.ins dc dx [])) a = some o → H' a = some o) : ∀ a o, H1 a = some o → H' a = some o := fun a o q => by
  have h1 : a ≠ x := ne_of_none q nx
  have h2 : a ≠ dx := ne_of_none q ndx
  exact keep a o h1 (by rw [upd_ne h1, upd_ne h2]; exact q)
theorem re_make {n : Nat} {G : List Dv → Option (List Dv)} {fa : AF} (ha : RA t fa) : RE (tMake C (spI C n ns G) [] E t) (fMake C ns n G fa) := fun C0 env σ H Q rv env' h R k => by
  unfold fMake at h
  obtain ⟨⟨rs, e1⟩, h1, h⟩ := Option.bind_eq_some_iff.mp h
  obtain ⟨⟨ds, e2⟩, h2, h⟩ := Option.bind_eq_some_iff.mp h
  split at h
  case isFalse => cases h
  rename_i hn
  obtain ⟨fs, h3, h⟩ := Option.bind_eq_some_iff.mp h
  split at h
  case isFalse => cases h
  rename_i hl
  cases h
  refine ha C0 env σ H _ rs e1 h1 R fun vs H1 R1 s1 g1 r1 x dx nx ndx nex => ?_
  rw [List.append_nil]
  obtain ⟨R2, s2, d2⟩ := frzs_ok R1 r1 h2
  refine ⟨x, dx, vs, fun a => MM C0 e2 σ a ∨ a = x ∨ a = dx, ds, fs, rfl, upd_same, h3, by rw [d2.length]; exact hn, hl, ?_, .inr (.inl rfl), fun a z => ?_, fun H' vs' keep ex hs => ⟨rfl, ?_⟩⟩
  · refine Dats.to (fun a o n q => ?_) (fun a z => ?_) _ _ d2
    · rw [upd_ne (ne_of_none q nx), upd_ne (ne_of_none q ndx)]
      exact q
    · rcases z with z | rfl | rfl
      · exact .inl z
      · exact .inr nx
      · exact .inr ndx
  · by_cases zx : a = x
    · rw [zx, upd_same]
      exact fun z => by cases z
    · rw [upd_ne zx]
      by_cases zd : a = dx
      · rw [zd, upd_same]
        exact fun z => by cases z
      · rw [upd_ne zd]
        rcases z with z | z | z
        · exact R2.memM a z
        · exact (zx z).elim
        · exact (zd z).elim
  · have kk := make_keep nx ndx keep
    refine k _ H' (R2.grow kk) (s1.trans s2) (g1.trans s1 fun a o _ q => kk a o q) ?_
    show Dat (MM C0 e2 σ) H' (.ins C ns fs) (.ref x)
    unfold Dat
    exact ⟨x, dx, vs', rfl, R2.fresh nx, ex, hl, Dats.to (fun _ _ _ q => q) (fun a z => .inl (.inl z)) _ _ hs⟩
/-! ### lists lent -/
mutual
def noL : Dv → Bool
  | .lst _ => false
  | .scr _ _ => false
  | .dct _ _ => false
  | .exc _ _ _ => false
  | .tup xs => noLs xs
  | .ins _ _ ds => noLs ds
  | _ => true
def noLs : List Dv → Bool
  | [] => true
  | d :: ds => noL d && noLs ds
end
section
variable {M M' : Addr → Prop} {H : Hp}
mutual
theorem noL_up (m : ∀ a, M' a → M a ∨ ∃ (k : OK) (vs : List V), H a = some (k.obj vs)) : ∀ (d : Dv) (v : V), noL d = true → Dat M H d v → Dat M' H d v
  | .non, _, _, h => h
  | .bl _, _, _, h => h
  | .int _, _, _, h => h
  | .str _, _, _, h => h
  | .lst ds, v, hn, h => by simp [noL] at hn
  | .tup ds, v, hn, h => by
    unfold Dat at h ⊢
    unfold noL at hn
    obtain ⟨a, vs, e, n, ha, hs⟩ := h
    exact ⟨a, vs, e, fun z => (m a z).elim n (fun ⟨k, ws, q⟩ => by rw [ha] at q; cases k <;> cases q), ha, noLs_up m ds vs hn hs⟩
  | .ins C ns ds, v, hn, h => by
    unfold Dat at h ⊢
    unfold noL at hn
    obtain ⟨a, dx, vs, e, n, ha, hl, hs⟩ := h
    exact ⟨a, dx, vs, e, fun z => (m a z).elim n (fun ⟨k, ws, q⟩ => by rw [ha] at q; cases k <;> cases q), ha, hl, noLs_up m ds vs hn hs⟩
  | .ty _, _, _, h => h
  | .cls _, _, _, h => h
  | .anyS, _, _, h => h
  | .dct ks ds, v, hn, h => by simp [noL] at hn
  | .exc _ _ _, v, hn, h => by simp [noL] at hn
  | .scr K ns, _, hn, h => by simp [noL] at hn
theorem noLs_up (m : ∀ a, M' a → M a ∨ ∃ (k : OK) (vs : List V), H a = some (k.obj vs)) : ∀ (ds : List Dv) (vs : List V), noLs ds = true → Dats M H ds vs → Dats M' H ds vs
  | [], _, _, h => h
  | d :: ds, vs, hn, h => by
    unfold Dats at h ⊢
    simp only [noLs, Bool.and_eq_true] at hn
    obtain ⟨v, r, e, h1, h2⟩ := h
    exact ⟨v, r, e, noL_up m d v hn.1 h1, noLs_up m ds r hn.2 h2⟩
end
end
/-- what a lent argument reads as -/
def lent (env : DEnv) : RV → Option Dv
  | .d d => some d
  | .v i => match env[i]? with
    | some (.dat d) => some d
    | some (.own false xs) => some (.lst xs)
    | some (.ownD ks ds) => some (.dct ks ds)
    | _ => none
def lents (env : DEnv) : List RV → Option (List Dv)
  | [] => some []
  | r :: rs => (lent env r).bind fun d => (lents env rs).map fun ds => d :: ds
theorem lent_ok {C0 : DC} {env : DEnv} {σ : L2.St} {H : Hp} {rv : RV} {v : V} (R : Rel C0 env σ H) (r : RVr C0 env σ H rv v) {d : Dv} (h : lent env rv = some d) : Dat C0.M0 H d v := by
  cases rv with
  | d x =>
    cases h
    exact Dat.to (fun _ _ _ q => q) (fun a z => .inl (.inl z)) _ _ r
  | v i =>
    have r : σ[i]? = some (some v) := r
    simp only [lent] at h
    split at h
    · rename_i x e
      cases h
      obtain ⟨u, h1, h2⟩ := R.dat i _ e
      rw [h1] at r
      cases r
      exact h2.to (fun _ _ _ q => q) (fun a z => .inl (.inl z))
    · rename_i xs e
      cases h
      obtain ⟨a, vs, h1, ha, hs⟩ := R.own i (.lst false) _ e
      rw [h1] at r
      cases r
      unfold Dat
      exact ⟨a, vs, rfl, (R.no i (.lst false) xs a (by intro z; cases z) e h1).2, ha, Dats.to (fun _ _ _ q => q) (fun a z => .inl (.inl z)) _ _ hs⟩
    · rename_i ks ds e
      cases h
      have fit : ks.length = ds.length := R.fit i (.dct ks) ds e
      obtain ⟨a, vs, h1, ha, hs⟩ := R.own i (.dct ks) ds e
      rw [h1] at r
      cases r
      unfold Dat
      exact ⟨a, vs, rfl, (R.no i (.dct ks) ds a (by intro z; cases z) e h1).2, ha, fit, Dats.to (fun _ _ _ q => q) (fun a z => .inl (.inl z)) _ _ hs⟩
    · cases h
theorem lents_ok {C0 : DC} {env : DEnv} {σ : L2.St} {H : Hp} (R : Rel C0 env σ H) : ∀ {rs : List RV} {vs : List V} {ds : List Dv}, RVs C0 env σ H rs vs → lents env rs = some ds → Dats C0.M0 H ds vs
  | [], vs, ds, r, h => by
    cases h
    have r : vs = [] := r
    subst r
    exact .nil
  | x :: rs, vs, ds, r, h => by
    simp only [lents] at h
    obtain ⟨d, h1, h⟩ := Option.bind_eq_some_iff.mp h
    obtain ⟨ds', h2, h⟩ := Option.map_eq_some_iff.mp h
    cases h
    obtain ⟨v, ws, rfl, r1, r2⟩ := r
    exact .cons (lent_ok R r1 h1) (lents_ok R r2 h2)
def fMakeB (C : Addr) (ns : List Str) (n : Nat) (G : List Dv → Option (List Dv)) (fa : AF) : EF := fun env => (fa env).bind fun p => (lents p.2 p.1).bind fun ds => if ds.length + 1 = n then (G ds).bind fun fs => if ns.length = fs.length ∧ noLs fs = true then some (.d (.ins C ns fs), p.2) else none else none
theorem re_makeB {n : Nat} {G : List Dv → Option (List Dv)} {fa : AF} (ha : RA t fa) : RE (tMake C (spI C n ns G) [] E t) (fMakeB C ns n G fa) := fun C0 env σ H Q rv env' h R k => by
  unfold fMakeB at h
  obtain ⟨⟨rs, e1⟩, h1, h⟩ := Option.bind_eq_some_iff.mp h
  obtain ⟨ds, h2, h⟩ := Option.bind_eq_some_iff.mp h
  split at h
  case isFalse => cases h
  rename_i hn
  obtain ⟨fs, h3, h⟩ := Option.bind_eq_some_iff.mp h
  split at h
  case isFalse => cases h
  rename_i hl
  cases h
  refine ha C0 env σ H _ rs e1 h1 R fun vs H1 R1 s1 g1 r1 x dx nx ndx nex => ?_
  rw [List.append_nil]
  have d2 := lents_ok R1 r1 h2
  refine ⟨x, dx, vs, fun a => C0.M0 a ∨ a = x ∨ a = dx, ds, fs, rfl, upd_same, h3, by rw [d2.length]; exact hn, hl.1, ?_, .inr (.inl rfl), fun a z => ?_, fun H' vs' keep ex hs => ⟨rfl, ?_⟩⟩
  · refine Dats.to (fun a o n q => ?_) (fun a z => ?_) _ _ d2
    · rw [upd_ne (ne_of_none q nx), upd_ne (ne_of_none q ndx)]
      exact q
    · rcases z with z | rfl | rfl
      · exact .inl z
      · exact .inr nx
      · exact .inr ndx
  · by_cases zx : a = x
    · rw [zx, upd_same]
      exact fun z => by cases z
    · rw [upd_ne zx]
      by_cases zd : a = dx
      · rw [zd, upd_same]
        exact fun z => by cases z
      · rw [upd_ne zd]
        rcases z with z | z | z
        · exact R1.mem a z
        · exact (zx z).elim
        · exact (zd z).elim
  · have kk := make_keep nx ndx keep
    refine k _ H' (R1.grow kk) s1 (g1.trans s1 fun a o _ q => kk a o q) ?_
    show Dat (MM C0 e1 σ) H' (.ins C ns fs) (.ref x)
    unfold Dat
    refine ⟨x, dx, vs', rfl, R1.fresh nx, ex, hl.1, noLs_up (fun a z => ?_) _ _ hl.2 hs⟩
    rcases z with z | ⟨i, b, xs, z1, z2⟩
    · exact .inl (.inl z)
    · obtain ⟨a', ws, q1, q2, _⟩ := R1.own i b xs z1
      rw [q1] at z2
      cases z2
      exact .inr ⟨b, ws, kk _ _ q2⟩
/-! ### what __init__ stores -/
abbrev IFI := Addr → DEnv → Option (List Dv)
def iEnd : IFI := fun _ _ => some []
def self0 (x : Addr) (env : DEnv) : Bool := match env with
  | .dat (.cls y) :: _ => decide (y = x)
  | _ => false
def iSet (fe : EF) (r : IFI) : IFI := fun x env => (fe env).bind fun p => (frz p.2 p.1).bind fun q => if self0 x q.2 = true then (r x q.2).map fun xs => q.1 :: xs else none
def iThen (g : SF) (r : IFI) : IFI := fun x env => (g env).bind fun o => match o with
  | .nx e => r x e
  | _ => none
/-- the stores -/
def RNS (C : Addr) (t : TS) (g : IFI) (names : List Str) : Prop := ∀ (C0 : DC) (env : DEnv) (σ : L2.St) (H : Hp) (D : Ends) (xs : List Dv) (x dx : Addr) (ns0 : List Str) (vs0 : List V) (ds0 : List Dv), g x env = some xs → Rel C0 env σ H → (C0.io = none ∧ ∀ a, ¬ C0.pv a) → C0.M0 x → H x = some (.ins C dx (ns0.zip vs0)) → C0.H0 x = none →
  ns0.length = vs0.length → (ns0 ++ names).Nodup → ns0.length + names.length ≤ 100 → Dats (MM C0 env σ) H ds0 vs0 →
  (∀ σ' H' vs', (∀ a o, C0.H0 a = some o → H' a = some o) → H' x = some (.ins C dx ((ns0 ++ names).zip (vs0 ++ vs'))) → Dats C0.M0 H' (ds0 ++ xs) (vs0 ++ vs') → D.nx σ' H') → t D σ H
theorem putF_new : ∀ {ns : List Str} {vs : List V} {f : Str} {y : V}, ns.length = vs.length → f ∉ ns → putF f y (ns.zip vs) = (ns ++ [f]).zip (vs ++ [y])
  | [], [], f, y, _, _ => rfl
  | n :: ns, v :: vs, f, y, h, hf => by
    have ih := putF_new (ns := ns) (vs := vs) (f := f) (y := y) (by simpa using h) fun z => hf (List.mem_cons_of_mem _ z)
    have hne : ¬ n = f := fun z => hf (z ▸ List.mem_cons_self)
    show (if n = f then _ else (n, v) :: putF f y (ns.zip vs)) = _
    rw [if_neg hne, ih]
    rfl
  | [], _ :: _, _, _, h, _ => by simp at h
  | _ :: _, [], _, _, h, _ => by simp at h
theorem Rel.notW0 {C0 : DC} {env : DEnv} {σ : L2.St} {H : Hp} (R : Rel C0 env σ H) (hio : C0.io = none) {x : Addr} (m : C0.M0 x) : ¬ W env σ x := by
  rintro ⟨i, b, xs, h1, h2⟩
  by_cases hb : b = .lst true
  case neg => exact (R.no i b xs x hb h1 h2).2 m
  case pos =>
    subst hb
    obtain ⟨a, e⟩ := R.io i xs h1
    rw [hio] at e
    cases e
/-- a store at an address apart -/
theorem Rel.store {C0 : DC} {env : DEnv} {σ : L2.St} {H : Hp} (R : Rel C0 env σ H) (hio : C0.io = none ∧ ∀ a, ¬ C0.pv a) {x : Addr} (m : C0.M0 x) (h0 : C0.H0 x = none) (o : HO) : Rel C0 env σ (upd H x o) where
  len := R.len
  dat := fun i d e => by
    obtain ⟨v, h1, h2⟩ := R.dat i d e
    exact ⟨v, h1, h2.to (fun a u n q => by rw [upd_ne (fun z => n (by rw [z]; exact .inl m))]; exact q) fun _ z => .inl z⟩
  own := fun i b xs e => by
    obtain ⟨a, vs, h1, h2, h3⟩ := R.own i b xs e
    have nx : a ≠ x := fun z => R.notW0 hio.1 m ⟨i, b, xs, e, z ▸ h1⟩
    exact ⟨a, vs, h1, by rw [upd_ne nx]; exact h2, Dats.to (fun a u n q => by rw [upd_ne (fun z => n (by rw [z]; exact .inl m))]; exact q) (fun _ z => .inl z) _ _ h3⟩
  fit := R.fit
  inj := R.inj
  io := R.io
  iob := R.iob
  no := R.no
  keep := fun a u n e => by
    have nx : a ≠ x := fun z => by
      rw [z, h0] at e
      cases e
    rw [upd_ne nx]
    exact R.keep a u n e
  mem := fun a z => by
    by_cases e : a = x
    · rw [e, upd_same]
      exact fun z => by cases z
    · rw [upd_ne e]
      exact R.mem a z
  prv := R.prvTo rfl (fun _ _ z => ⟨z, rfl⟩) (fun a u n q => by rw [upd_ne (fun z => n (by rw [z]; exact ⟨.inl m, hio.2 x⟩))]; exact q) (fun _ z => .inl z)
theorem self0_ok {C0 : DC} {env : DEnv} {σ : L2.St} {H : Hp} (R : Rel C0 env σ H) {x : Addr} (h : self0 x env = true) : σ[0]? = some (some (.ref x)) := by
  unfold self0 at h
  split at h
  · rename_i y r
    obtain ⟨v, h1, h2⟩ := R.dat 0 (.cls y) rfl
    unfold Dat at h2
    rw [h1, h2, of_decide_eq_true h]
  · cases h
theorem rns_set {te : TE} {fe : EF} {u : TS} {r : IFI} {names : List Str} (c : Cls K C) (n : NoAttr K C f) (he : RE te fe) (hu : RNS C u r names) : RNS C (tSeq (sFld K (tVar 0) te f) u) (iSet fe r) (f :: names) := fun C0 env σ H D xs x dx ns0 vs0 ds0 h R hio m hx h0 hl nd sm hd k => by
  unfold iSet at h
  obtain ⟨⟨y, e1⟩, h1, h⟩ := Option.bind_eq_some_iff.mp h
  obtain ⟨⟨d, e2⟩, h2, h⟩ := Option.bind_eq_some_iff.mp h
  split at h
  case isFalse => cases h
  rename_i hs
  obtain ⟨xs', h3, h⟩ := Option.map_eq_some_iff.mp h
  cases h
  refine he C0 env σ H _ y e1 h1 R fun v H1 R1 s1 g1 r1 => ?_
  obtain ⟨R2, s2, d2⟩ := frz_ok R1 r1 h2
  have hx1 : H1 x = some (.ins C dx (ns0.zip vs0)) := g1 x _ (R.notW0 hio.1 m) hx
  have sf := self0_ok R2 hs
  have nf : f ∉ ns0 := fun z => by
    have := (List.nodup_append.mp nd).2.2 f z f List.mem_cons_self
    exact this rfl
  have e := putF_new (y := v) hl nf
  refine ⟨.ref x, sf, x, C, dx, ns0.zip vs0, rfl, hx1, c, n, ?_, ?_⟩
  · rw [List.length_zip]
    omega
  rw [e]
  have hd2 := (Grow.refl _ _ H1).dats s2 (g1.dats s1 hd)
  have up : ∀ {ds vs}, Dats (MM C0 e2 σ) H1 ds vs → Dats (MM C0 e2 σ) (upd H1 x (.ins C dx ((ns0 ++ [f]).zip (vs0 ++ [v])))) ds vs := fun q => Dats.to (fun a u n q => by rw [upd_ne (fun z => n (by rw [z]; exact .inl m))]; exact q) (fun _ z => .inl z) _ _ q
  refine hu C0 e2 σ _ D xs' x dx (ns0 ++ [f]) (vs0 ++ [v]) (ds0 ++ [d]) h3 (R2.store hio m h0 _) hio m upd_same h0 (by rw [List.length_append, List.length_append, hl]; rfl) (by rw [List.append_assoc]; exact nd) (by rw [List.length_append]; simp only [List.length_cons, List.length_nil] at sm ⊢; omega) (up (hd2.app (.one d2))) fun σ' H' vs' keep ex hs' => ?_
  refine k σ' H' (v :: vs') keep ?_ ?_
  · rw [ex, List.append_assoc, List.append_assoc]
    rfl
  · rw [List.append_assoc, List.append_assoc] at hs'
    exact hs'
theorem rns_one {te : TE} {fe : EF} (c : Cls K C) (n : NoAttr K C f) (he : RE te fe) : RNS C (sFld K (tVar 0) te f) (iSet fe iEnd) [f] := fun C0 env σ H D xs x dx ns0 vs0 ds0 h R hio m hx h0 hl nd sm hd k => by
  unfold iSet at h
  obtain ⟨⟨y, e1⟩, h1, h⟩ := Option.bind_eq_some_iff.mp h
  obtain ⟨⟨d, e2⟩, h2, h⟩ := Option.bind_eq_some_iff.mp h
  split at h
  case isFalse => cases h
  rename_i hs
  obtain ⟨xs', h3, h⟩ := Option.map_eq_some_iff.mp h
  cases h
  cases h3
  refine he C0 env σ H _ y e1 h1 R fun v H1 R1 s1 g1 r1 => ?_
  obtain ⟨R2, s2, d2⟩ := frz_ok R1 r1 h2
  have hx1 : H1 x = some (.ins C dx (ns0.zip vs0)) := g1 x _ (R.notW0 hio.1 m) hx
  have sf := self0_ok R2 hs
  have nf : f ∉ ns0 := fun z => by
    have := (List.nodup_append.mp nd).2.2 f z f List.mem_cons_self
    exact this rfl
  have e := putF_new (y := v) hl nf
  refine ⟨.ref x, sf, x, C, dx, ns0.zip vs0, rfl, hx1, c, n, ?_, ?_⟩
  · rw [List.length_zip]
    omega
  rw [e]
  have hd2 := (Grow.refl _ _ H1).dats s2 (g1.dats s1 hd)
  have R3 := R2.store hio m h0 (.ins C dx ((ns0 ++ [f]).zip (vs0 ++ [v])))
  refine k σ _ [v] (fun a o q => R3.keep a o (fun i z => by rw [hio.1] at z; cases z) q) upd_same ?_
  exact Dats.to (fun a u n q => by rw [upd_ne (fun z => n (by rw [z]; exact m))]; exact q) (fun _ z => .inl z) _ _ (Dats.to (fun _ _ _ q => q) (fun a z => .inl (.inl z)) _ _ (hd2.app (.one d2)))
/-- what goes ahead of the stores -/
def RNI (C : Addr) (t : TS) (g : IFI) (names : List Str) : Prop := ∀ (C0 : DC) (env : DEnv) (σ : L2.St) (H : Hp) (D : Ends) (xs : List Dv) (x dx : Addr), g x env = some xs → Rel C0 env σ H → (C0.io = none ∧ ∀ a, ¬ C0.pv a) → C0.M0 x → H x = some (.ins C dx []) → C0.H0 x = some (.ins C dx []) →
  (∀ σ' H' vs', (∀ a o, a ≠ x → C0.H0 a = some o → H' a = some o) → H' x = some (.ins C dx (names.zip vs')) → Dats C0.M0 H' xs vs' → D.nx σ' H') → t D σ H
theorem rni_of {t : TS} {g : IFI} {names : List Str} (nd : names.Nodup) (sm : names.length ≤ 100) (h : RNS C t g names) : RNI C t g names := fun C0 env σ H D xs x dx e R hio m hx h0 k => by
  have R' : Rel { C0 with H0 := fun a => if a = x then none else C0.H0 a, pvm := fun a h => ⟨(C0.pvm a h).1, (C0.pvm a h).2.1, by split <;> first | rfl | exact (C0.pvm a h).2.2⟩ } env σ H := by
    refine ⟨R.len, R.dat, R.own, R.fit, R.inj, R.io, R.iob, fun i b xs a nb e1 e2 => ?_, fun a o n q => ?_, R.mem, R.prvTo rfl (fun _ _ z => ⟨z, rfl⟩) (fun _ _ _ q => q) (fun _ z => .inl z)⟩
    · obtain ⟨q1, q2⟩ := R.no i b xs a nb e1 e2
      refine ⟨?_, q2⟩
      show (if a = x then none else C0.H0 a) = none
      split
      · rfl
      · exact q1
    · have q : (if a = x then none else C0.H0 a) = some o := q
      split at q
      · cases q
      · exact R.keep a o n q
  refine h _ env σ H D xs x dx [] [] [] e R' hio m (by simpa using hx) (by show (if x = x then none else C0.H0 x) = none; rw [if_pos rfl]) rfl (by simpa using nd) (by simpa using sm) .nil fun σ' H' vs' keep ex hs => ?_
  refine k σ' H' vs' (fun a o n q => keep a o ?_) (by simpa using ex) (by simpa using hs)
  show (if a = x then none else C0.H0 a) = some o
  rw [if_neg n]
  exact q
theorem rni_then {t u : TS} {g : SF} {r : IFI} {names : List Str} (h : RS t g) (hu : RNI C u r names) : RNI C (tSeq t u) (iThen g r) names := fun C0 env σ H D xs x dx e R hio m hx h0 k => by
  unfold iThen at e
  obtain ⟨o, h1, e⟩ := Option.bind_eq_some_iff.mp e
  cases o with
  | nx e1 => exact h C0 env σ H _ _ h1 R fun σ1 H1 R1 => hu C0 e1 σ1 H1 D xs x dx e R1 hio m (R1.keep x _ (fun i z => by rw [hio.1] at z; cases z) h0) h0 k
  | bk e1 => cases e
  | ct e1 => cases e
  | rt d e1 => cases e
open Classical in
/-- the attributes that are stored, whatever the new object's address -/
noncomputable def runI (n : Nat) (g : IFI) (ds : List Dv) : Option (List Dv) := if h : ∃ fs, ∀ x, g x (.dat (.cls x) :: (ds.map .dat ++ List.replicate (n - 1 - ds.length) .non)) = some fs then some (Classical.choose h) else none
theorem runI_eq {n : Nat} {g : IFI} {ds fs : List Dv} (h : ∀ x, g x (.dat (.cls x) :: (ds.map .dat ++ List.replicate (n - 1 - ds.length) .non)) = some fs) : runI n g ds = some fs := by
  have e : ∃ fs, ∀ x, g x (.dat (.cls x) :: (ds.map .dat ++ List.replicate (n - 1 - ds.length) .non)) = some fs := ⟨fs, h⟩
  unfold runI
  rw [dif_pos e]
  have := Classical.choose_spec e 0
  rw [h 0] at this
  exact congrArg some (Option.some.inj this).symm
theorem body_okI {t : TS} {g : IFI} {N ps names : List Str} (hN : ps.length ≤ N.length) (hg : RNI C t g names) {vs : List V} {H : Hp} {Q : VK} {E : XK} (h : spI C ps.length names (runI N.length g) vs H Q E) :
    t { nx := fun _ H' => Q .non H', rt := Q } (L2.start N vs) H := by
  obtain ⟨x, dx, ws, M, ds, fs, rfl, hx, hF, hl, hlf, hd, mx, hm, q⟩ := h
  unfold runI at hF
  split at hF
  case isFalse => cases hF
  rename_i ex
  have es := Classical.choose_spec ex x
  rw [Option.some.inj hF] at es
  have hlen : ds.length + 1 = ps.length := by rw [← hd.length, hl]
  have dd : Dats M H (.cls x :: ds) (.ref x :: ws) := .cons (by unfold Dat; rfl) hd
  have eenv : Slot.dat (.cls x) :: (ds.map .dat ++ List.replicate (N.length - 1 - ds.length) .non) = (Dv.cls x :: ds).map .dat ++ List.replicate (N.length - (Dv.cls x :: ds).length) Slot.non := by
    rw [List.length_cons, List.map_cons, List.cons_append, show N.length - (ds.length + 1) = N.length - 1 - ds.length by omega]
  rw [eenv] at es
  generalize hds : (Dv.cls x :: ds) = ds' at es dd
  have hlen' : ds'.length = ps.length := by rw [← hds, List.length_cons, hlen]
  generalize hvs : (V.ref x :: ws) = vs at dd
  have no : ∀ (i : Nat) (b : OK) xs, (ds'.map Slot.dat ++ List.replicate (N.length - ds'.length) Slot.non)[i]? ≠ some (b.slot xs) := fun i b xs z => by
    have z := pad_getK z
    obtain ⟨d, z1, _⟩ := map_dat_get z
    exact OK.nodat z1
  have R : Rel { M0 := M, H0 := H, io := none } (ds'.map .dat ++ List.replicate (N.length - ds'.length) .non) (L2.start N vs) H := by
    refine ⟨?_, fun i d z => ?_, fun i b xs z => (no i b xs z).elim, fun i b xs z => (no i b xs z).elim, fun i j b c xs zs a z1 z2 y1 y2 => (no i b xs z1).elim, fun i xs z => (no i (.lst true) xs z).elim, fun i a z => (by cases z), fun i b xs a _ z1 z2 => (no i b xs z1).elim, fun a o _ z => z, fun a z => hm a z, fun i d z => absurd (pad_get (by intro z; cases z) z) (nop_map i d)⟩
    · rw [List.length_append, List.length_replicate, List.length_map]
      unfold L2.start
      rw [List.length_append, List.length_map, List.length_replicate, dd.length]
    · obtain ⟨d', z1, z2⟩ := map_dat_get (pad_get (by intro z; cases z) z)
      cases z1
      obtain ⟨v, y1, y2⟩ := dd.get z2
      refine ⟨v, ?_, y2.to (fun _ _ _ q => q) fun a z => ?_⟩
      · rw [start_get, if_pos (List.getElem?_eq_some_iff.mp y1).1, y1]
        rfl
      · rcases z with z | ⟨i, b, xs, z1, _⟩
        · exact .inl z
        · exact (no i b xs z1).elim
  exact hg _ _ _ H _ fs x dx es R ⟨rfl, fun _ z => z⟩ mx hx hx fun σ' H' vs' keep ex hs => q H' vs' keep ex hs
/-! ### ==, isinstance -/
def fEqO (C : Addr) (ns : List Str) (F : FnF) (fa fb : EF) : EF := fun env => (fa env).bind fun p => (fb p.2).bind fun q => (val q.2 p.1).bind fun x => (val q.2 q.1).bind fun y => match x, y with
  | .ins C1 n1 d1, .ins C2 n2 d2 => if C1 = C ∧ C2 = C ∧ n1 = ns ∧ n2 = ns then (F [.dat (.ins C1 n1 d1), .dat (.ins C2 n2 d2)]).bind fun z => match z.1 with
    | .bl b => some (.d (.bl b), q.2)
    | _ => none
    else none
  | _, _ => none
theorem re_eqO {F : FnF} {tb : TE} {fb : EF} (ha : RE ta fa) (hb : RE tb fb) : RE (tOp (DG.rEqO C (spD 2 F) E) ta tb) (fEqO C ns F fa fb) := fun C0 env σ H Q rv env' h R k => by
  unfold fEqO at h
  obtain ⟨⟨x, e1⟩, h1, k1⟩ := Option.bind_eq_some_iff.mp h
  obtain ⟨⟨y, e2⟩, h2, k2⟩ := Option.bind_eq_some_iff.mp k1
  obtain ⟨dx, h3, k3⟩ := Option.bind_eq_some_iff.mp k2
  obtain ⟨dy, h4, k4⟩ := Option.bind_eq_some_iff.mp k3
  clear h k1 k2 k3
  cases dx <;> try (cases k4; done)
  rename_i C1 n1 d1
  cases dy <;> try (cases k4; done)
  rename_i C2 n2 d2
  simp only at k4
  split at k4
  case isFalse => cases k4
  rename_i hc
  obtain ⟨rfl, rfl, rfl, rfl⟩ := hc
  obtain ⟨⟨z, ys⟩, h5, k5⟩ := Option.bind_eq_some_iff.mp k4
  clear k4
  cases z <;> try (cases k5; done)
  rename_i b
  cases k5
  refine ha C0 env σ H _ x e1 h1 R fun vx H1 R1 s1 g1 r1 => ?_
  refine hb C0 e1 σ H1 _ y _ h2 R1 fun vy H2 R2 s2 g2 r2 => ?_
  have dx := val_ok R2 (r1.step s2 g2) h3
  have dy := val_ok R2 r2 h4
  have dd := Dats.cons dx (.one dy)
  have dx' := dx
  have dy' := dy
  unfold Dat at dx' dy'
  obtain ⟨a, da, va, rfl, na, ea, _, _⟩ := dx'
  obtain ⟨b', db, vb, rfl, nb, eb, _, _⟩ := dy'
  refine ⟨a, b', da, db, _, _, rfl, rfl, ea, eb, MM C0 env' σ, none, [Dv.ins _ _ d1, Dv.ins _ _ d2].map .dat, .bl b, ys, h5, rfl, ⟨rfl, fun i d q => ?_, fun i c xs q => ?_, fun i a q => (by cases q), fun a q => R2.memM a q, nop_map⟩, fun v H' keep hr _ => ?_⟩
  · obtain ⟨d', z, q'⟩ := map_dat_get q
    cases z
    exact dd.get q'
  · obtain ⟨d', z, q'⟩ := map_dat_get q
    exact (OK.nodat z).elim
  · have kk : ∀ a o, H2 a = some o → H' a = some o := fun a o q => keep a o (fun i z => by cases z) q
    have hr' := hr
    unfold Dat at hr
    exact ⟨⟨b, hr⟩, k v H' (R2.grow kk) (s1.trans s2) ((g1.trans s1 g2).trans (s1.trans s2) fun a o _ q => kk a o q) hr'⟩
/-- isinstance(x, C), x an instance of it -/
def fIsO (C : Addr) (fa : EF) : EF := fun env => (fa env).bind fun p => (look p.2 p.1).bind fun d => match d with
  | .ins C' _ _ => if C' = C then some (.d (.bl true), p.2) else none
  | _ => none
theorem re_isO (cl : Cls K C) (h1 : PySem.W.findIn K (.ref C) "__class__" = some (some (.builtin "object.__class__"))) (h2 : PySem.W.specialIn K (.builtin "object.__class__") "__get__" = some (some (.builtin "getset_descriptor.__get__")))
    (h3 : PySem.W.takesIn K (.builtin "object.__class__") = some true) (h4 : PySem.W.mroIn K C (.type "object") = some true) (h5 : PySem.W.kitOne K (.ref C) (.ref C) = some true) (ha : RE ta fa) : RE (tCB (rIsi K) (tCons ta (tCons (tC (.ref C)) tNil))) (fIsO C fa) := fun C0 env σ H Q rv env' h R k => by
  unfold fIsO at h
  obtain ⟨⟨x, e1⟩, g1, k1⟩ := Option.bind_eq_some_iff.mp h
  obtain ⟨d, g2, k2⟩ := Option.bind_eq_some_iff.mp k1
  clear h k1
  cases d <;> try (cases k2; done)
  rename_i C' ns' ds
  simp only at k2
  split at k2
  case isFalse => cases k2
  rename_i hc
  subst hc
  cases k2
  refine ha C0 env σ H _ x _ g1 R fun vx H1 R1 s1 gr r1 => ?_
  have hd := look_ok R1 r1 g2
  unfold Dat at hd
  obtain ⟨a, dx, vs, rfl, na, ea, _, _⟩ := hd
  exact ⟨.ref a, .ref C', .ref C', .ref C', true, rfl, .own C', .base (.ins ea cl h1 h2 h3 h4), h5, k _ H1 R1 s1 gr (show Dat (MM C0 env' σ) H1 (.bl true) _ by unfold Dat; rfl)⟩
theorem kit_own {K : PySem.W.Frag} {C : Addr} : PySem.W.kitOne K (.ref C) (.ref C) = some true := by
  unfold PySem.W.kitOne
  simp
end
section
variable {i j : Nat}
theorem Dats.map {M M' : Addr → Prop} {H H' : Hp} (h : ∀ d v, Dat M H d v → Dat M' H' d v) : ∀ {ds : List Dv} {vs : List V}, Dats M H ds vs → Dats M' H' ds vs
  | [], vs, q => by
    unfold Dats at q ⊢
    exact q
  | d :: ds, vs, q => by
    unfold Dats at q ⊢
    obtain ⟨v, r, e, h1, h2⟩ := q
    exact ⟨v, r, e, h d v h1, Dats.map h h2⟩
/-- a, b = [..], [..] -/
def sParOO (i j : Nat) (fa fb : LF) : SF := fun env => (fa env).bind fun p => (fb p.2).bind fun q => if canSet q.2 j = true ∧ canSet (q.2.set j (.own false q.1)) i = true then some (.nx ((q.2.set j (.own false q.1)).set i (.own false p.1))) else none
theorem rs_parOO (hij : i ≠ j) {ta tb : TE} {fa fb : LF} (ha : RL ta fa) (hb : RL tb fb) : RS (tPar i j (tCons ta (tCons tb tNil))) (sParOO i j fa fb) := fun C env σ H D o h R k => by
  unfold sParOO at h
  obtain ⟨⟨xs, e1⟩, h1, h⟩ := Option.bind_eq_some_iff.mp h
  obtain ⟨⟨ys, e2⟩, h2, h⟩ := Option.bind_eq_some_iff.mp h
  split at h
  case isFalse => cases h
  rename_i hc
  cases h
  obtain ⟨s, es, ns⟩ := canSet_ok hc.1
  obtain ⟨s', es', ns'⟩ := canSet_ok hc.2
  refine ha C env σ H _ xs e1 h1 R fun p vs H1 _ h0 hm Rp s1 g1 hp hs => ?_
  refine hb (C.plus p) e1 σ H1 _ ys e2 h2 Rp fun p2 ws H2 dp h02 hm2 Rp2 s2 g2 hp2 hs2 => ?_
  obtain ⟨R4, m4⟩ := Rp2.ownSet Rp.hio h02 hm2 es ns hp2 hs2
  have hpp : H2 p = some (.lst vs) := g2 p _ (Rp.notW hm R.hio) hp
  have hsp := Dats.map dp hs
  have hsp : Dats (MM (C.plus p) (e2.set j (.own false ys)) (σ.set j (some (.ref p2)))) H2 xs vs := Dats.to (fun _ _ _ q => q) (fun a z => .inl (m4 a z)) _ _ hsp
  obtain ⟨R5, m5⟩ := R4.ownSet R.hio h0 hm es' ns' hpp hsp
  refine ⟨_, _, rfl, ?_⟩
  show D.nx ((σ.set i (some (.ref p))).set j (some (.ref p2))) H2
  rw [List.set_comm _ _ hij]
  exact k _ H2 R5
end
end DL
namespace DL
open PySem L2
theorem lk_at : ∀ {ns : List Str} {f : Str} {i : Nat}, ns.idxOf f = i → i < ns.length → ∀ vs : List V, vs.length = ns.length → (ns.zip vs).lookup f = vs[i]?
  | [], f, i, _, h2, _, _ => by simp at h2
  | n :: ns, f, i, h1, h2, [], h => by simp at h
  | n :: ns, f, i, h1, h2, v :: vs, h => by
    rw [List.idxOf_cons] at h1
    show List.lookup f ((n, v) :: ns.zip vs) = _
    rw [List.lookup_cons]
    by_cases e : n = f
    · subst e
      simp at h1
      subst h1
      simp
    · have b1 : (n == f) = false := by simpa using e
      have b2 : (f == n) = false := by simpa using fun z : f = n => e z.symm
      rw [b1] at h1
      simp only [cond_false] at h1
      rw [b2]
      subst h1
      have := lk_at (ns := ns) (f := f) rfl (by simpa using h2) vs (by simpa using h)
      simpa using this
theorem lk_none {ns : List Str} {m : Str} (h : m ∉ ns) (vs : List V) : (ns.zip vs).lookup m = none := by
  induction ns generalizing vs with
  | nil => rfl
  | cons n ns ih =>
    cases vs with
    | nil => rfl
    | cons v vs =>
      show List.lookup m ((n, v) :: ns.zip vs) = _
      rw [List.lookup_cons]
      have b : (m == n) = false := by simpa using fun z : m = n => h (z ▸ List.mem_cons_self)
      rw [b]
      exact ih (fun z => h (List.mem_cons_of_mem _ z)) vs
section
variable {env : DEnv} {C : Addr} {ns : List Str} {n i j : Nat} {fa fb fo fe : EF} {F : FnF} {G : List Dv → Option (List Dv)} {as : AF} {x : Addr} {r : IFI} {g : SF} {la lb : LF}
@[simp] theorem e_fld : fFld C ns i fa env = (fa env).bind fun p => (val p.2 p.1).bind fun d => match d with
  | .ins C' ns' ds => if C' = C ∧ ns' = ns then (ds[i]?).map fun x => (.d x, p.2) else none
  | _ => none := rfl
@[simp] theorem e_meth : fMeth C ns n F fo as env = (fo env).bind fun p => (val p.2 p.1).bind fun d => match d with
  | .ins C' ns' ds => if C' = C ∧ ns' = ns then (as p.2).bind fun q => (frzs q.2 q.1).bind fun r => if r.1.length + 1 = n then (F (.dat (.ins C' ns' ds) :: r.1.map .dat)).map fun z => (.d z.1, r.2) else none else none
  | _ => none := rfl
@[simp] theorem e_lmeth : lMeth C ns n G fo as env = (fo env).bind fun p => (val p.2 p.1).bind fun d => match d with
  | .ins C' ns' ds => if C' = C ∧ ns' = ns then (as p.2).bind fun q => (frzs q.2 q.1).bind fun r => if r.1.length + 1 = n then (G (.ins C' ns' ds :: r.1)).map fun z => (z, r.2) else none else none
  | _ => none := rfl
@[simp] theorem e_make : fMake C ns n G as env = (as env).bind fun p => (frzs p.2 p.1).bind fun q => if q.1.length + 1 = n then (G q.1).bind fun fs => if ns.length = fs.length then some (.d (.ins C ns fs), q.2) else none else none := rfl
@[simp] theorem e_makeB : fMakeB C ns n G as env = (as env).bind fun p => (lents p.2 p.1).bind fun ds => if ds.length + 1 = n then (G ds).bind fun fs => if ns.length = fs.length ∧ noLs fs = true then some (.d (.ins C ns fs), p.2) else none else none := rfl
@[simp] theorem e_eqO : fEqO C ns F fa fb env = (fa env).bind fun p => (fb p.2).bind fun q => (val q.2 p.1).bind fun x => (val q.2 q.1).bind fun y => match x, y with
  | .ins C1 n1 d1, .ins C2 n2 d2 => if C1 = C ∧ C2 = C ∧ n1 = ns ∧ n2 = ns then (F [.dat (.ins C1 n1 d1), .dat (.ins C2 n2 d2)]).bind fun z => match z.1 with
    | .bl b => some (.d (.bl b), q.2)
    | _ => none
    else none
  | _, _ => none := rfl
@[simp] theorem e_isO : fIsO C fa env = (fa env).bind fun p => (look p.2 p.1).bind fun d => match d with
  | .ins C' _ _ => if C' = C then some (.d (.bl true), p.2) else none
  | _ => none := rfl
@[simp] theorem e_iend : iEnd x env = some [] := rfl
@[simp] theorem e_iset : iSet fe r x env = (fe env).bind fun p => (frz p.2 p.1).bind fun q => if self0 x q.2 = true then (r x q.2).map fun xs => q.1 :: xs else none := rfl
@[simp] theorem e_ithen : iThen g r x env = (g env).bind fun o => match o with
  | .nx e => r x e
  | _ => none := rfl
@[simp] theorem e_self0 {ys : DEnv} : self0 x (.dat (.cls x) :: ys) = true := by simp [self0]
@[simp] theorem e_parOO : sParOO i j la lb env = (la env).bind fun p => (lb p.2).bind fun q => if canSet q.2 j = true ∧ canSet (q.2.set j (.own false q.1)) i = true then some (.nx ((q.2.set j (.own false q.1)).set i (.own false p.1))) else none := rfl
@[simp] theorem e_lents0 : lents env [] = some [] := rfl
@[simp] theorem e_lents1 {z : RV} {rs : List RV} : lents env (z :: rs) = (lent env z).bind fun d => (lents env rs).map fun ds => d :: ds := rfl
@[simp] theorem e_noLs0 : noLs [] = true := rfl
@[simp] theorem e_noLs1 {d : Dv} {ds : List Dv} : noLs (d :: ds) = (noL d && noLs ds) := rfl
@[simp] theorem e_noLtup {ds : List Dv} : noL (.tup ds) = noLs ds := rfl
@[simp] theorem e_noLint {k : Int} : noL (.int k) = true := rfl
@[simp] theorem e_noLstr {k : Str} : noL (.str k) = true := rfl
/-- the law's own promise -/
noncomputable def okF (K : PySem.W.Frag) : FnF := fun as => match as with
  | [.dat (.scr K' ns)] => @ite _ (K' = K) (Classical.propDecidable _) (some (.bl true, [])) none
  | _ => none
theorem okF_ok {K : PySem.W.Frag} {ns : List Int} : okF K [.dat (.scr K ns)] = some (.bl true, []) := by
  unfold okF
  simp
theorem okF_imp {K : PySem.W.Frag} {F : FnF} (h : ∀ ns, F [.dat (.scr K ns)] = some (.bl true, [])) : ∀ as r, okF K as = some r → F as = some r := fun as r e => by
  unfold okF at e
  split at e
  · rename_i K' ns
    split at e
    · rename_i hk
      subst hk
      cases e
      exact h ns
    · cases e
  · cases e
theorem spD_imp {n : Nat} {F F' : FnF} (e : ∀ as r, F' as = some r → F as = some r) {vs : List V} {H : Hp} {Q : VK} {E : XK} (h : spD n F' vs H Q E) : spD n F vs H Q E := by
  obtain ⟨M, io, as, r, ys, hF, rest⟩ := h
  exact ⟨M, io, as, r, ys, e _ _ hF, rest⟩
end
end DL
namespace DG
open PySem L2
theorem law_imp {P : Program} {w : World} {K : PySem.W.Frag} {mg : Str → Option Value} {CX : CXT} {k : Nat} {fa : Addr} {x : Str} {F F' : DL.FnF} {B : FuncData → Prop} {J : Heap → Prop} {J' : Heap → Prop} (e : ∀ as r, F' as = some r → F as = some r)
    (h : ∃ fd : FuncData, B fd ∧ ∀ base : Heap, J base → J' base → FnG P w K mg base CX k fa fd [x] (DL.spD 1 F)) : ∃ fd : FuncData, B fd ∧ ∀ base : Heap, J base → J' base → FnG P w K mg base CX k fa fd [x] (DL.spD 1 F') := by
  obtain ⟨fd, b, f⟩ := h
  refine ⟨fd, b, fun base j j' => ?_⟩
  have G := f base j j'
  exact ⟨fun vs H Q E z => G.len vs H Q E (DL.spD_imp e z), fun A out s H ar us vs Q E g r e0 bd v z => G.run A out s H ar us vs Q E g r e0 bd v (DL.spD_imp e z)⟩
end DG

set_option Elab.async false
set_option linter.all false
set_option maxRecDepth 100000
set_option maxHeartbeats 4000000
/-! Calls by keywords, defaults, keyword-only parameters. -/
namespace DL
/-- items by their places -/
def gix {α : Type} (b : List Nat) (l : List α) : List α := b.filterMap fun i => l[i]?
theorem gix_cons {α : Type} (i : Nat) (b : List Nat) (l : List α) : gix (i :: b) l = match l[i]? with
    | some x => x :: gix b l
    | none => gix b l := by
  unfold gix
  rw [List.filterMap_cons]
  cases l[i]? <;> rfl
end DL
namespace DG
open PySem L2 PySem.Spec PyProof.Rows DL
theorem vals_gix {vs : List V} {us : List Value} (h : Vals vs us) : ∀ b : List Nat, Vals (gix b vs) (gix b us)
  | [] => .nil
  | i :: b => by
    rw [gix_cons, gix_cons]
    have ih := vals_gix h b
    cases e : vs[i]? with
    | none =>
      have : us[i]? = none := by
        rw [List.getElem?_eq_none_iff] at e ⊢
        rw [← h.length]
        exact e
      rw [this]
      exact ih
    | some v =>
      obtain ⟨u, hu, r⟩ := h.get e
      rw [hu]
      exact .cons r ih
/-- f(e, .., k = v, ..): n values, m keywords -/
def tCallKn (n m : Nat) (sp : Sp) (gV : List V → List V → List V) (E : XK) (t tk : TA) : TE := fun σ H Q => t σ H fun vs H1 => tk σ H1 fun zs H2 => vs.length = n ∧ zs.length = m ∧ sp (gV vs zs) H2 Q E
/-- o.m(k = v, ..) -/
def tMethKn (C : Addr) (mt : Str) (m : Nat) (sp : Sp) (gV : List V → List V → List V) (E : XK) (ta : TE) (tk : TA) : TE := fun σ H Q => ta σ H fun x H1 => ∃ a dx fs, x = .ref a ∧ H1 a = some (.ins C dx fs) ∧ fs.lookup mt = none ∧
  tk σ H1 fun zs H2 => zs.length = m ∧ sp (gV [x] zs) H2 Q E
section
variable {X : Cx} {CT : CXT} {k n : Nat} {f C : Addr} {fd : FuncData} {ps ks : List Str} {sp : Sp} {E : XK} {x mt : Str} {p pos apos : Pos} {e o : Expr} {es : List Expr} {kws : List Keyword} {ta : TE} {t tk : TA} {g : List Value → List Value → List Value} {gV : List V → List V → List V}
theorem run_gk {pins : List (Addr × Obj)} {σ : L2.St} {H : Hp} {s : Shared} {Q : VK} {us ws : List Value} {vs zs : List V} (F : FnG X.prog X.w X.K X.mg X.base CT k f fd ps sp) (gu : X.A.guards = some []) (hr : Room k X.A) (hb : KBn X.K fd ps n ks g gV) (hx : Passes CT X E)
    (I : Inv X pins σ H s) (r : Vals vs us) (rz : Vals zs ws) (l1 : vs.length = n) (l2 : zs.length = ks.length) (h : sp (gV vs zs) H Q E) : wpAny (model X.prog X.w) X.A (call (.ref f) us (ks.zip ws)) (EP X pins σ Q) X.xe s := by
  have r2 := hb.rel r rz
  have hl : (g us ws).length = ps.length := by rw [← r2.length]; exact F.len _ _ _ _ h
  refine wpAny_call (codeAny_mono (F.run X.A X.stack s H ⟨us, ks.zip ws⟩ (g us ws) (gV vs zs) Q E gu hr I.env0 (hb.to s us ws I.kIn (r.length.symm.trans l1) (rz.length.symm.trans l2)) r2 h) fun r s' hq => ?_)
  cases r with
  | error e => exact hx pins σ H s e s' I hq
  | ok fl =>
    cases fl with
    | ret u => exact I.after hq
    | next => exact False.elim hq
    | brk => exact False.elim hq
    | cont => exact False.elim hq
theorem callK_g (F : FnG X.prog X.w X.K X.mg X.base CT k f fd ps sp) (gu : X.A.guards = some []) (hr : Room k X.A) (hg : Gl X x) (hm : X.mg x = some (.ref f)) (hk : PySem.W.keepIn X.K (.ref f) = true) (hb : KBn X.K fd ps n ks g gV) (hx : Passes CT X E)
    (ha : PA X (e :: es) t) (hkw : PK X kws tk) (hall : (backToKw pos (keywordEach kws X.env)).all (·.1.isSome) = true := by rfl) (hks : (backToKw pos (keywordEach kws X.env)).filterMap (·.1) = ks := by rfl)
    (hdb : (x == ("__debug__" : Str)) = false := by decide) (he : starEach (e :: es) X.env = (false, eval e X.env) :: starEach es X.env := by rfl)
    (hpl : ((backTo pos (starEach (e :: es) X.env)).any (·.1) || (backToKw pos (keywordEach kws X.env)).any (·.1.isNone)) = false := by rfl) :
    PE X (.Call (.Name x p) (e :: es) kws pos) (tCallKn n ks.length sp gV E t tk) := by
  refine ⟨fun pins s σ H Q I h => ?_⟩
  refine wpAny_Call_Name_kw (ld_glob I hg hm ?_ hdb)
  refine PySem.W.callWith_KW (h₀ := X.base) I.ok.mod.kin hk hall (thn (ha.run pos pins s σ H _ I h) fun us s1 ⟨vs, H1, I1, r, q⟩ => ?_) hpl he
  refine thn (hkw.run pos pins s1 σ H1 _ I1 q) fun ws s2 ⟨zs, H2, I2, rz, l1, l2, q2⟩ => ⟨I2.kIn, ?_⟩
  rw [hks]
  exact run_gk F gu hr hb hx I2 r rz l1 l2 q2
theorem callK0_g (F : FnG X.prog X.w X.K X.mg X.base CT k f fd ps sp) (gu : X.A.guards = some []) (hr : Room k X.A) (hg : Gl X x) (hm : X.mg x = some (.ref f)) (hk : PySem.W.keepIn X.K (.ref f) = true) (hb : KBn X.K fd ps 0 ks g gV) (hx : Passes CT X E)
    (hkw : PK X kws tk) (hall : (backToKw pos (keywordEach kws X.env)).all (·.1.isSome) = true := by rfl) (hks : (backToKw pos (keywordEach kws X.env)).filterMap (·.1) = ks := by rfl)
    (hdb : (x == ("__debug__" : Str)) = false := by decide)
    (hpl : ((backTo pos (starEach [] X.env)).any (·.1) || (backToKw pos (keywordEach kws X.env)).any (·.1.isNone)) = false := by rfl) :
    PE X (.Call (.Name x p) [] kws pos) (tCallKn 0 ks.length sp gV E tNil tk) := by
  refine ⟨fun pins s σ H Q I h => ?_⟩
  refine wpAny_Call_Name_kw (ld_glob I hg hm ?_ hdb)
  refine PySem.W.callWith_KW0 (h₀ := X.base) I.ok.mod.kin hk hall ?_ hpl
  refine thn (hkw.run pos pins s σ H _ I h) fun ws s2 ⟨zs, H2, I2, rz, l1, l2, q2⟩ => ⟨I2.kIn, ?_⟩
  rw [hks]
  exact run_gk (us := []) (vs := []) F gu hr hb hx I2 .nil rz rfl l2 q2
theorem methK0_g {pl : Sem Bool} (he : PE X o ta) (c : Cls X.K C) (hm : Meth X.K C mt f) (F : FnG X.prog X.w X.K X.mg X.base CT k f fd ps sp) (gu : X.A.guards = some []) (hr : Room k X.A) (hb : KBn X.K fd ps 1 ks g gV) (hx : Passes CT X E) (hkw : PK X kws tk)
    (hall : (backToKw pos (keywordEach kws X.env)).all (·.1.isSome) = true := by rfl) (hks : (backToKw pos (keywordEach kws X.env)).filterMap (·.1) = ks := by rfl)
    (hpl : ((backTo pos (starEach [] X.env)).any (·.1) || (backToKw pos (keywordEach kws X.env)).any (·.1.isNone)) = false := by rfl)
    (ht : eval (.Call (.Attribute o mt apos) [] kws pos) X.env = (do
      let ov ← eval o X.env
      standAt apos.atName
      let (f, first) ← holding [ov] (getMethod ov mt pl)
      callWith pos f first (backTo pos (starEach [] X.env)) (backToKw pos (keywordEach kws X.env))) := by rfl) :
    PE X (.Call (.Attribute o mt apos) [] kws pos) (tMethKn C mt ks.length sp gV E ta tk) := by
  refine ⟨fun pins s σ H Q I h => ?_⟩
  refine PySem.W.methodCall_KW (pl := pl) (thn (he.run pins s σ H _ I h) fun u s1 ⟨x, H1, I1, rx, a, dx, fs, ex, ea, l, q⟩ => ?_) ht
  subst ex
  obtain rfl : u = Value.ref a := rx
  refine getmeth_ok I1 ea c hm l ?_
  refine PySem.W.callWith_KW0 (first := [.ref a]) (h₀ := X.base) I.ok.mod.kin hm.kp hall ?_ hpl
  refine thn (hkw.run pos pins s1 σ H1 _ I1 q) fun ws s2 ⟨zs, H2, I2, rz, l2, q2⟩ => ⟨I2.kIn, ?_⟩
  rw [hks]
  exact run_gk (us := [.ref a]) (vs := [.ref a]) F gu hr hb hx I2 (.cons rfl .nil) rz rfl l2 q2
theorem run_makeK_g {pins : List (Addr × Obj)} {σ : L2.St} {H : Hp} {s : Shared} {Q : VK} {us ws : List Value} {vs zs : List V} (M : Mk X.K C f) (F : FnG X.prog X.w X.K X.mg X.base CT k f fd ps sp) (gu : X.A.guards = some []) (hr : Room (k + 1) X.A) (hb : KBn X.K fd ps (n + 1) ks g gV) (hx : Passes CT X E)
    (I : Inv X pins σ H s) (r : Vals vs us) (rz : Vals zs ws) (l1 : vs.length = n) (l2 : zs.length = ks.length)
    (h : ∀ x dx, H x = none → H dx = none → dx ≠ x → sp (gV (.ref x :: vs) zs) (upd (upd H dx (.own x)) x (.ins C dx [])) (fun v H2 => v = .non ∧ Q (.ref x) H2) E) :
    wpAny (model X.prog X.w) X.A (call (.ref C) us (ks.zip ws)) (EP X pins σ Q) X.xe s := by
  have hq := h (s.heap.objs.size + 1) s.heap.objs.size (I.hok.fresh (Nat.le_succ _)) (I.hok.fresh (Nat.le_refl _)) (Nat.ne_of_lt (Nat.lt_succ_self _))
  have I2 := Inv.made (C := C) I
  have r1 : Vals (V.ref (s.heap.objs.size + 1) :: vs) (Value.ref (s.heap.objs.size + 1) :: us) := .cons rfl r
  have r2 := hb.rel r1 rz
  have n1 : (Value.ref (s.heap.objs.size + 1) :: us).length = n + 1 := by
    rw [List.length_cons, ← r.length, l1]
  refine wpAny_call (make_map (f := f) I.kIn M.makes M.init (beq_iff_eq.mp M.fn) (codeAny_mono (F.run _ X.stack _ _ ⟨Value.ref (s.heap.objs.size + 1) :: us, ks.zip ws⟩ (g (Value.ref (s.heap.objs.size + 1) :: us) ws) _ _ E (guards_under gu) (hr.make C us (ks.zip ws))
    (I2.env0.make C us (ks.zip ws)) (hb.to _ (Value.ref (s.heap.objs.size + 1) :: us) ws I2.kIn n1 (rz.length.symm.trans l2)) r2 hq) fun r s' hq' => ?_))
  cases r with
  | error e => exact hx pins σ _ _ e s' I2 hq'
  | ok fl =>
    cases fl with
    | ret u =>
      obtain ⟨v, H', I3, rv, ev, q3⟩ := I2.after hq'
      subst ev
      exact ⟨rv, ⟨V.ref (s.heap.objs.size + 1), H', I3, rfl, q3⟩⟩
    | next => exact False.elim hq'
    | brk => exact False.elim hq'
    | cont => exact False.elim hq'
theorem makeK0_g (M : Mk X.K C f) (F : FnG X.prog X.w X.K X.mg X.base CT k f fd ps sp) (gu : X.A.guards = some []) (hr : Room (k + 1) X.A) (hg : Gl X x) (hm : X.mg x = some (.ref C)) (hb : KBn X.K fd ps 1 ks g gV) (hx : Passes CT X E) (hkw : PK X kws tk)
    (hall : (backToKw pos (keywordEach kws X.env)).all (·.1.isSome) = true := by rfl) (hks : (backToKw pos (keywordEach kws X.env)).filterMap (·.1) = ks := by rfl) (hdb : (x == ("__debug__" : Str)) = false := by decide)
    (hpl : ((backTo pos (starEach [] X.env)).any (·.1) || (backToKw pos (keywordEach kws X.env)).any (·.1.isNone)) = false := by rfl) :
    PE X (.Call (.Name x p) [] kws pos) (tMakeK C 0 ks.length sp gV E tNil tk) := by
  refine ⟨fun pins s σ H Q I h => ?_⟩
  refine wpAny_Call_Name_kw (ld_glob I hg hm ?_ hdb)
  refine PySem.W.callWith_KW0 (h₀ := X.base) I.ok.mod.kin M.kp hall ?_ hpl
  refine thn (hkw.run pos pins s σ H _ I h) fun ws s2 ⟨zs, H2, I2, rz, l1, l2, q2⟩ => ⟨I2.kIn, ?_⟩
  rw [hks]
  exact run_makeK_g (us := []) (vs := []) M F gu hr hb hx I2 .nil rz rfl l2 q2
/-- C() -/
theorem make0_g {dvs : List V} {ds : List Value} (M : Mk X.K C f) (F : FnG X.prog X.w X.K X.mg X.base CT k f fd ps sp) (gu : X.A.guards = some []) (hr : Room (k + 1) X.A) (hg : Gl X x) (hm : X.mg x = some (.ref C)) (hb : Binds X.K fd ps ds) (hd : Vals dvs ds) (hx : Passes CT X E)
    (hdb : (x == ("__debug__" : Str)) = false := by decide) : PE X (.Call (.Name x p) [] [] pos) (tMake C sp dvs E tNil) := by
  refine ⟨fun pins s σ H Q I h => ?_⟩
  refine wpAny_Call_Name_kw (ld_glob I hg hm ?_ hdb)
  exact PySem.W.callWith_K0 I.kIn M.kp (run_make_g (us := []) M F gu hr hb hd hx I .nil h)
end
section
variable {P : Program} {w : World} {K : PySem.W.Frag} {mg : Str → Option Value} {base : Heap} {x qual : Str} {st : Stmt} {f : Addr} {fd : FuncData} {dvs : List V} {kws : List (Str × V)} {C : CXT}
/-- a def without defaults, called by keywords -/
theorem kbn_of {ps : List Str} {b : List Nat} {n : Nat} {ks : List Str} (F : Fun K x qual st f fd)
    (h : ∀ (kV doc pm : Value) (an : Option Addr) (cdv ct : Value) (us ws : List Value), us.length = n → ws.length = ks.length → bindArgs (PySem.W.fnOf x qual (defArgs st) (defBody st) (defScope st) .none kV doc pm an cdv ct) ⟨us, ks.zip ws⟩ = pure (ps.zip (gix b (us ++ ws)))) :
    KBn K fd ps n ks (fun us ws => gix b (us ++ ws)) (fun vs zs => gix b (vs ++ zs)) := by
  obtain ⟨oc, od, kV, doc, pm, an, cdv, ct, osl, rfl, lk, hcd⟩ := F.ex
  exact ⟨fun s us ws X l1 l2 => .of_eq (h kV doc pm an cdv ct us ws l1 l2), fun r1 r2 => vals_gix (r1.append r2) b⟩
theorem bodyD_g {N ps : List Str} {k : Nat} {sp : Sp} (F : FunD K x qual (defArgs st) (defBody st) (defScope st) dvs kws f fd) (S : FnScope N ps (defScope st)) (len : ∀ vs H Q E, sp vs H Q E → vs.length = ps.length)
    (hb : ∀ (cdv : Value) (A : Around) (out : List Env) (s : Shared) (H : Hp) (vs : List V) (Q : VK) (E : XK), A.guards = some [] → Room k (A.deeper (envOfC qual (defScope st) s.heap.objs.size f cdv)) → sp vs H Q E →
      ∃ t, PSs (cxOf C P w K mg base N qual (defScope st) f cdv A out s H E).nox (defBody st) t ∧ t { nx := fun _ H' => Q .non H', rt := Q } (L2.start N vs) H) : FnG P w K mg base C (k + 1) f fd ps sp := by
  obtain ⟨oc, od, dV, kV, doc, pm, an, cdv, ct, osl, rfl, lk, hcd, _, _⟩ := F.ex
  refine ⟨len, ?_⟩
  intro A out s H ar us vs Q E g hr e0 bt rv want
  have size := len _ _ _ _ want
  have old : ∀ b o, base.get? b = some o → s.heap.get? b = some o := fun b o z => (e0.bs b o z).1
  have inK : K.In s.heap := e0.mod.kin.keeps old
  have kinds : ∀ y ∈ ps.zip us, (defScope st).names.lookup y.1 = some .local ∨ ((defScope st).names.lookup y.1 = some .cell ∧ ((cellsFrom (s.heap.objs.size + 1) (defScope st).names []).lookup y.1).isSome = true) := by
    rintro ⟨n, v⟩ hy
    exact (S.par n (List.of_mem_zip hy).1).imp id fun z => ⟨z, PySem.W.cellsFrom_some _ _ _ (.inl z)⟩
  apply codeAny_call_function hr.depth (inK _ _ lk) rfl S.co S.gen rfl (PySem.W.codeRec_of inK hcd) (bt _ _ _ _ _)
  apply wpAny_newFunctionEnv_cells S.kind kinds
  intro env he s1 x
  subst he
  refine ⟨(e0.mod.nolimit.keeps old).keeps x.toInCall.keep, codeAny_func ?_⟩
  obtain ⟨t, ht, hq⟩ := hb cdv A out s H vs Q E g (hr.deeper _) want
  have I : Inv (cxOf C P w K mg base N qual (defScope st) f cdv A out s H E) [] (L2.start N vs) H s1 := inv_start S hr.hd e0 size rv x
  apply wpAny_mono (ht.nox.run [] s1 (L2.start N vs) H _ I hq) _ fun _ _ z => z
  intro fl s2 h
  have ce : ∀ {τ : L2.St} {H' : Hp} {v : V} {u : Value}, Inv (cxOf C P w K mg base N qual (defScope st) f cdv A out s H E) [] τ H' s2 → RelV v u → Q v H' → CE out P w H s Q u s2 := fun J r q => ⟨_, _, J.os, J.bare, J.base, J.hok, r, q⟩
  match fl, h with
  | .ret u, ⟨v, τ, H', J, r, q⟩ => exact ce J r q
  | .next, ⟨τ, H', J, q⟩ => exact ce (v := V.non) (u := Value.none) J rfl q
  | .brk, ⟨_, _, _, q⟩ => cases q
  | .cont, ⟨_, _, _, q⟩ => cases q
end
end DG

set_option Elab.async false
set_option linter.all false
set_option maxRecDepth 100000
set_option maxHeartbeats 4000000
namespace DL
open PySem L2
theorem dats_gix {M : Addr → Prop} {H : Hp} {ds : List Dv} {vs : List V} (h : Dats M H ds vs) : ∀ b : List Nat, Dats M H (gix b ds) (gix b vs)
  | [] => .nil
  | i :: b => by
    rw [gix_cons, gix_cons]
    have ih := dats_gix h b
    cases e : ds[i]? with
    | none =>
      have : vs[i]? = none := by
        rw [List.getElem?_eq_none_iff] at e ⊢
        rw [h.length]
        exact e
      rw [this]
      exact ih
    | some d =>
      obtain ⟨v, hv, hd⟩ := h.get e
      rw [hv]
      exact .cons hd ih
/-- constants that stand for defaults -/
def Cst (ms : List Dv) (mv : List V) : Prop := ∀ (M : Addr → Prop) (H : Hp), Dats M H ms mv
theorem cst_nil : Cst [] [] := fun _ _ => .nil
theorem cst_int {ms : List Dv} {mv : List V} {i : Int} (h : Cst ms mv) : Cst (.int i :: ms) (.int i :: mv) := fun M H => .cons (by unfold Dat; rfl) (h M H)
theorem cst_non {ms : List Dv} {mv : List V} (h : Cst ms mv) : Cst (.non :: ms) (.non :: mv) := fun M H => .cons (by unfold Dat; rfl) (h M H)
section
variable {K : PySem.W.Frag} {E : XK} {ta tk to : TA} {tx : TE} {fa fk : AF} {fx : EF} {C : Addr} {ns : List Str} {n m : Nat} {ms : List Dv} {mv : List V} {b : List Nat} {F : FnF} {G : List Dv → Option (List Dv)} {gV : List V → List V → List V}
/-- the data of a call under a promise -/
theorem spD_of {C0 : DC} {env env' : DEnv} {σ : L2.St} {H : Hp} {Q : VK} {as : List Dv} {vs : List V} {r : Dv} {ys : List Dv} {k : Nat} (R : Rel C0 env σ H) (d : Dats (MM C0 env σ) H as vs) (hF : F (as.map .dat) = some (r, ys)) (hn : vs.length = k)
    (q : ∀ v H', (∀ a o, H a = some o → H' a = some o) → Rel C0 env σ H' → Dat (MM C0 env σ) H' r v → Q v H') : spD k F vs H Q E := by
  refine ⟨MM C0 env σ, none, as.map .dat, r, ys, hF, hn, ⟨by rw [List.length_map]; exact d.length, fun i x z => ?_, fun i c xs z => ?_, fun i a z => (by cases z), fun a z => R.memM a z, nop_map⟩, fun v H' keep hr _ => ?_⟩
  · obtain ⟨d', z1, z2⟩ := map_dat_get z
    cases z1
    exact d.get z2
  · obtain ⟨d', z1, z2⟩ := map_dat_get z
    exact (OK.nodat z1).elim
  · have kk : ∀ a o, H a = some o → H' a = some o := fun a o q => keep a o (fun i z => by cases z) q
    exact q v H' kk (R.grow kk) hr
/-- f(e, ..) with the defaults behind -/
def fCallD (n : Nat) (ms : List Dv) (F : FnF) (fa : AF) : EF := fun env => (fa env).bind fun p => (frzs p.2 p.1).bind fun q => if q.1.length + ms.length = n then (F ((q.1 ++ ms).map .dat)).map fun r => (.d r.1, q.2) else none
theorem re_callD (hms : Cst ms mv) (ha : RA ta fa) : RE (tCall (spD n F) mv E ta) (fCallD n ms F fa) := fun C0 env σ H Q rv env' h R k => by
  unfold fCallD at h
  obtain ⟨⟨rs, e1⟩, h1, k1⟩ := Option.bind_eq_some_iff.mp h
  obtain ⟨⟨ds, e2⟩, h2, k2⟩ := Option.bind_eq_some_iff.mp k1
  clear h k1
  split at k2
  case isFalse => cases k2
  rename_i hn
  obtain ⟨⟨r, ys⟩, h3, k3⟩ := Option.map_eq_some_iff.mp k2
  cases k3
  refine ha C0 env σ H _ rs e1 h1 R fun vs H1 R1 s1 g1 r1 => ?_
  obtain ⟨R2, s2, d2⟩ := frzs_ok R1 r1 h2
  have dd := d2.app (hms (MM C0 _ σ) H1)
  refine spD_of (env' := env) R2 dd h3 (by rw [dd.length, List.length_append]; exact hn) fun v H' kk R3 hr => ?_
  exact k v H' R3 (s1.trans s2) (g1.trans s1 fun a o _ q => kk a o q) hr
/-- f(e, .., k = v, ..) -/
def fCallK (n m N : Nat) (ms : List Dv) (b : List Nat) (F : FnF) (fa fk : AF) : EF := fun env => (fa env).bind fun p => (fk p.2).bind fun q => (frzs q.2 p.1).bind fun r => (frzs r.2 q.1).bind fun z => if r.1.length = n ∧ z.1.length = m ∧ (gix b (r.1 ++ ms ++ z.1)).length = N then (F ((gix b (r.1 ++ ms ++ z.1)).map .dat)).map fun y => (.d y.1, z.2) else none
theorem re_callK {N : Nat} (hms : Cst ms mv) (hg : ∀ vs zs, gV vs zs = gix b (vs ++ mv ++ zs)) (ha : RA ta fa) (hk : RA tk fk) : RE (DG.tCallKn n m (spD N F) gV E ta tk) (fCallK n m N ms b F fa fk) := fun C0 env σ H Q rv env' h R k => by
  unfold fCallK at h
  obtain ⟨⟨rs, e1⟩, h1, k1⟩ := Option.bind_eq_some_iff.mp h
  obtain ⟨⟨ks, e2⟩, h2, k2⟩ := Option.bind_eq_some_iff.mp k1
  obtain ⟨⟨ds, e3⟩, h3, k3⟩ := Option.bind_eq_some_iff.mp k2
  obtain ⟨⟨es, e4⟩, h4, k4⟩ := Option.bind_eq_some_iff.mp k3
  clear h k1 k2 k3
  split at k4
  case isFalse => cases k4
  rename_i hn
  obtain ⟨⟨r, ys⟩, h5, k5⟩ := Option.map_eq_some_iff.mp k4
  cases k5
  refine ha C0 env σ H _ rs e1 h1 R fun vs H1 R1 s1 g1 r1 => ?_
  refine hk C0 e1 σ H1 _ ks e2 h2 R1 fun zs H2 R2 s2 g2 r2 => ?_
  obtain ⟨R3, s3, d3⟩ := frzs_ok R2 (RVs.step s2 g2 r1) h3
  obtain ⟨R4, s4, d4⟩ := frzs_ok R3 (RVs.step s3 (Grow.refl _ _ _) r2) h4
  have d3' := (Grow.refl _ _ H2).dats s4 d3
  have dd := dats_gix ((d3'.app (hms _ H2)).app d4) b
  refine ⟨by rw [d3.length]; exact hn.1, by rw [d4.length]; exact hn.2.1, ?_⟩
  rw [hg]
  refine spD_of (env' := env) R4 dd h5 (by rw [dd.length]; exact hn.2.2) fun v H' kk R5 hr => ?_
  exact k v H' R5 (((s1.trans s2).trans s3).trans s4) ((g1.trans s1 g2).trans (s1.trans s2) fun a o _ q => kk a o q) hr
/-- o.m(k = v, ..) -/
def fMethK (C : Addr) (ns : List Str) (m N : Nat) (b : List Nat) (F : FnF) (fo : EF) (fk : AF) : EF := fun env => (fo env).bind fun p => (val p.2 p.1).bind fun d => match d with
  | .ins C' ns' ds => if C' = C ∧ ns' = ns then (fk p.2).bind fun q => (frzs q.2 q.1).bind fun z => if z.1.length = m ∧ (gix b (.ins C' ns' ds :: z.1)).length = N then (F ((gix b (.ins C' ns' ds :: z.1)).map .dat)).map fun y => (.d y.1, z.2) else none else none
  | _ => none
theorem re_methK {N : Nat} {mt : Str} (hm : ∀ vs : List V, (ns.zip vs).lookup mt = none) (hg : ∀ x zs, gV [x] zs = gix b (x :: zs)) (ho : RE tx fx) (hk : RA tk fk) : RE (DG.tMethKn C mt m (spD N F) gV E tx tk) (fMethK C ns m N b F fx fk) := fun C0 env σ H Q rv env' h R k => by
  unfold fMethK at h
  obtain ⟨⟨x, e1⟩, h1, k1⟩ := Option.bind_eq_some_iff.mp h
  obtain ⟨d, h2, k2⟩ := Option.bind_eq_some_iff.mp k1
  clear h k1
  cases d <;> try (cases k2; done)
  rename_i C' ns' ds
  simp only at k2
  split at k2
  case isFalse => cases k2
  rename_i hc
  obtain ⟨rfl, rfl⟩ := hc
  obtain ⟨⟨ks, e2⟩, h3, k3⟩ := Option.bind_eq_some_iff.mp k2
  obtain ⟨⟨es, e3⟩, h4, k4⟩ := Option.bind_eq_some_iff.mp k3
  clear k2 k3
  split at k4
  case isFalse => cases k4
  rename_i hn
  obtain ⟨⟨r, ys⟩, h5, k5⟩ := Option.map_eq_some_iff.mp k4
  cases k5
  refine ho C0 env σ H _ x e1 h1 R fun vx H1 R1 s1 g1 r1 => ?_
  have hd := val_ok R1 r1 h2
  have hd' := hd
  unfold Dat at hd'
  obtain ⟨a, dx, vs, rfl, na, ea, hlen, hs⟩ := hd'
  refine ⟨a, dx, ns'.zip vs, rfl, ea, hm vs, ?_⟩
  refine hk C0 e1 σ H1 _ ks e2 h3 R1 fun zs H2 R2 s2 g2 r2 => ?_
  obtain ⟨R3, s3, d3⟩ := frzs_ok R2 r2 h4
  have hd2 := (Grow.refl _ _ H2).dat s3 (g2.dat s2 hd)
  have dd := dats_gix (Dats.cons hd2 d3) b
  refine ⟨by rw [d3.length]; exact hn.1, ?_⟩
  rw [hg]
  refine spD_of (env' := env) R3 dd h5 (by rw [dd.length]; exact hn.2) fun v H' kk R5 hr => ?_
  exact k v H' R5 ((s1.trans s2).trans s3) ((g1.trans s1 g2).trans (s1.trans s2) fun a o _ q => kk a o q) hr
theorem spI_of {C0 : DC} {env : DEnv} {σ : L2.St} {H1 : Hp} {Q : VK} {ds fs : List Dv} {vs : List V} {x dx : Addr} {k : Nat} (R2 : Rel C0 env σ H1) (d2 : Dats (MM C0 env σ) H1 ds vs) (nx : H1 x = none) (ndx : H1 dx = none) (nex : dx ≠ x) (hG : G ds = some fs) (hn : vs.length + 1 = k) (hl : ns.length = fs.length)
    (q : ∀ H', (∀ a o, H1 a = some o → H' a = some o) → Rel C0 env σ H' → Dat (MM C0 env σ) H' (.ins C ns fs) (.ref x) → Q (.ref x) H') :
    spI C k ns G (.ref x :: vs) (upd (upd H1 dx (.own x)) x (.ins C dx [])) (fun v H2 => v = .non ∧ Q (.ref x) H2) E := by
  refine ⟨x, dx, vs, fun a => MM C0 env σ a ∨ a = x ∨ a = dx, ds, fs, rfl, upd_same, hG, hn, hl, ?_, .inr (.inl rfl), fun a z => ?_, fun H' vs' keep ex hs => ⟨rfl, ?_⟩⟩
  · refine Dats.to (fun a o n q => ?_) (fun a z => ?_) _ _ d2
    · rw [upd_ne (ne_of_none q nx), upd_ne (ne_of_none q ndx)]
      exact q
    · rcases z with z | rfl | rfl
      · exact .inl z
      · exact .inr nx
      · exact .inr ndx
  · by_cases zx : a = x
    · rw [zx, upd_same]
      exact fun z => by cases z
    · rw [upd_ne zx]
      by_cases zd : a = dx
      · rw [zd, upd_same]
        exact fun z => by cases z
      · rw [upd_ne zd]
        rcases z with z | z | z
        · exact R2.memM a z
        · exact (zx z).elim
        · exact (zd z).elim
  · have kk := make_keep nx ndx keep
    refine q H' kk (R2.grow kk) ?_
    unfold Dat
    exact ⟨x, dx, vs', rfl, R2.fresh nx, ex, hl, Dats.to (fun _ _ _ q => q) (fun a z => .inl (.inl z)) _ _ hs⟩
/-- C(k = v, ..) -/
def fMakeK (C : Addr) (ns : List Str) (n m : Nat) (ms : List Dv) (b : List Nat) (G : List Dv → Option (List Dv)) (fk : AF) : EF := fun env => (fk env).bind fun q => (frzs q.2 q.1).bind fun z => if z.1.length = m ∧ (gix b (ms ++ z.1)).length + 1 = n then (G (gix b (ms ++ z.1))).bind fun fs => if ns.length = fs.length then some (.d (.ins C ns fs), z.2) else none else none
theorem re_makeK (hms : Cst ms mv) (hg : ∀ x zs, gV [x] zs = x :: gix b (mv ++ zs)) (hk : RA tk fk) : RE (tMakeK C 0 m (spI C n ns G) gV E tNil tk) (fMakeK C ns n m ms b G fk) := fun C0 env σ H Q rv env' h R k => by
  unfold fMakeK at h
  obtain ⟨⟨ks, e1⟩, h1, k1⟩ := Option.bind_eq_some_iff.mp h
  obtain ⟨⟨ds, e2⟩, h2, k2⟩ := Option.bind_eq_some_iff.mp k1
  clear h k1
  split at k2
  case isFalse => cases k2
  rename_i hn
  obtain ⟨fs, h3, k3⟩ := Option.bind_eq_some_iff.mp k2
  split at k3
  case isFalse => cases k3
  rename_i hl
  cases k3
  show tk σ H _
  refine hk C0 env σ H _ ks e1 h1 R fun zs H1 R1 s1 g1 r1 => ?_
  obtain ⟨R2, s2, d2⟩ := frzs_ok R1 r1 h2
  refine ⟨rfl, by rw [d2.length]; exact hn.1, fun x dx nx ndx nex => ?_⟩
  rw [hg]
  have dd := dats_gix ((hms _ H1).app d2) b
  refine spI_of R2 dd nx ndx nex h3 (by rw [dd.length]; exact hn.2) hl fun H' kk R3 hd => ?_
  exact k _ H' R3 (s1.trans s2) (g1.trans s1 fun a o _ q => kk a o q) hd
/-- C() -/
def fMake0 (C : Addr) (ns : List Str) (n : Nat) (ms : List Dv) (G : List Dv → Option (List Dv)) : EF := fun env => if ms.length + 1 = n then (G ms).bind fun fs => if ns.length = fs.length then some (.d (.ins C ns fs), env) else none else none
theorem re_make0 (hms : Cst ms mv) : RE (tMake C (spI C n ns G) mv E tNil) (fMake0 C ns n ms G) := fun C0 env σ H Q rv env' h R k => by
  unfold fMake0 at h
  split at h
  case isFalse => cases h
  rename_i hn
  obtain ⟨fs, h3, k3⟩ := Option.bind_eq_some_iff.mp h
  split at k3
  case isFalse => cases k3
  rename_i hl
  cases k3
  intro x dx nx ndx nex
  have dd := hms (MM C0 env σ) H
  rw [List.nil_append]
  refine spI_of R dd nx ndx nex h3 (by rw [dd.length]; exact hn) hl fun H' kk R3 hd => ?_
  exact k _ H' R3 (Sh.refl _) (fun a o _ q => kk a o q) hd
/-- a call that only looks at the lists it is given -/
def fCallB (n : Nat) (F : FnF) (fa : AF) : EF := fun env => (fa env).bind fun p => (lents p.2 p.1).bind fun ds => if ds.length = n then (F (ds.map .dat)).bind fun r => if noL r.1 = true then some (.d r.1, p.2) else none else none
theorem re_callB (ha : RA ta fa) : RE (tCall (spD n F) [] E ta) (fCallB n F fa) := fun C0 env σ H Q rv env' h R k => by
  unfold fCallB at h
  obtain ⟨⟨rs, e1⟩, h1, k1⟩ := Option.bind_eq_some_iff.mp h
  obtain ⟨ds, h2, k2⟩ := Option.bind_eq_some_iff.mp k1
  clear h k1
  split at k2
  case isFalse => cases k2
  rename_i hn
  obtain ⟨⟨r, ys⟩, h3, k3⟩ := Option.bind_eq_some_iff.mp k2
  split at k3
  case isFalse => cases k3
  rename_i hl
  cases k3
  refine ha C0 env σ H _ rs e1 h1 R fun vs H1 R1 s1 g1 r1 => ?_
  rw [List.append_nil]
  have d2 := lents_ok R1 r1 h2
  refine ⟨C0.M0, none, ds.map .dat, r, ys, h3, by rw [d2.length]; exact hn, ⟨by rw [List.length_map]; exact d2.length, fun i x z => ?_, fun i c xs z => ?_, fun i a z => (by cases z), fun a z => R1.mem a z, nop_map⟩, fun v H' keep hr _ => ?_⟩
  · obtain ⟨d', z1, z2⟩ := map_dat_get z
    cases z1
    exact d2.get z2
  · obtain ⟨d', z1, z2⟩ := map_dat_get z
    exact (OK.nodat z1).elim
  · have kk : ∀ a o, H1 a = some o → H' a = some o := fun a o q => keep a o (fun i z => by cases z) q
    refine k v H' (R1.grow kk) s1 (g1.trans s1 fun a o _ q => kk a o q) ?_
    refine noL_up (fun a z => ?_) _ _ hl hr
    rcases z with z | ⟨i, c, xs, z1, z2⟩
    · exact .inl z
    · obtain ⟨a', ws, q1, q2, _⟩ := R1.own i c xs z1
      rw [q1] at z2
      cases z2
      exact .inr ⟨c, ws, kk _ _ q2⟩
/-- the same, by keywords alone -/
def fCallKB (m N : Nat) (b : List Nat) (F : FnF) (fk : AF) : EF := fun env => (fk env).bind fun p => (lents p.2 p.1).bind fun ds => if ds.length = m ∧ (gix b ds).length = N then (F ((gix b ds).map .dat)).bind fun r => if noL r.1 = true then some (.d r.1, p.2) else none else none
theorem re_callKB {N : Nat} (hg : ∀ zs, gV [] zs = gix b zs) (hk : RA tk fk) : RE (DG.tCallKn 0 m (spD N F) gV E tNil tk) (fCallKB m N b F fk) := fun C0 env σ H Q rv env' h R k => by
  unfold fCallKB at h
  obtain ⟨⟨rs, e1⟩, h1, k1⟩ := Option.bind_eq_some_iff.mp h
  obtain ⟨ds, h2, k2⟩ := Option.bind_eq_some_iff.mp k1
  clear h k1
  split at k2
  case isFalse => cases k2
  rename_i hn
  obtain ⟨⟨r, ys⟩, h3, k3⟩ := Option.bind_eq_some_iff.mp k2
  split at k3
  case isFalse => cases k3
  rename_i hl
  cases k3
  show tk σ H _
  refine hk C0 env σ H _ rs e1 h1 R fun vs H1 R1 s1 g1 r1 => ?_
  have d1 := lents_ok R1 r1 h2
  have d2 := dats_gix d1 b
  refine ⟨rfl, by rw [d1.length]; exact hn.1, ?_⟩
  rw [hg]
  refine ⟨C0.M0, none, (gix b ds).map .dat, r, ys, h3, by rw [d2.length]; exact hn.2, ⟨by rw [List.length_map]; exact d2.length, fun i x z => ?_, fun i c xs z => ?_, fun i a z => (by cases z), fun a z => R1.mem a z, nop_map⟩, fun v H' keep hr _ => ?_⟩
  · obtain ⟨d', z1, z2⟩ := map_dat_get z
    cases z1
    exact d2.get z2
  · obtain ⟨d', z1, z2⟩ := map_dat_get z
    exact (OK.nodat z1).elim
  · have kk : ∀ a o, H1 a = some o → H' a = some o := fun a o q => keep a o (fun i z => by cases z) q
    refine k v H' (R1.grow kk) s1 (g1.trans s1 fun a o _ q => kk a o q) ?_
    refine noL_up (fun a z => ?_) _ _ hl hr
    rcases z with z | ⟨i, c, xs, z1, z2⟩
    · exact .inl z
    · obtain ⟨a', ws, q1, q2, _⟩ := R1.own i c xs z1
      rw [q1] at z2
      cases z2
      exact .inr ⟨c, ws, kk _ _ q2⟩
end
section
variable {env : DEnv} {C : Addr} {ns : List Str} {n m N : Nat} {ms : List Dv} {b : List Nat} {F : FnF} {G : List Dv → Option (List Dv)} {fo : EF} {fa fk : AF}
@[simp] theorem e_callD : fCallD n ms F fa env = (fa env).bind fun p => (frzs p.2 p.1).bind fun q => if q.1.length + ms.length = n then (F ((q.1 ++ ms).map .dat)).map fun r => (.d r.1, q.2) else none := rfl
@[simp] theorem e_callK : fCallK n m N ms b F fa fk env = (fa env).bind fun p => (fk p.2).bind fun q => (frzs q.2 p.1).bind fun r => (frzs r.2 q.1).bind fun z => if r.1.length = n ∧ z.1.length = m ∧ (gix b (r.1 ++ ms ++ z.1)).length = N then (F ((gix b (r.1 ++ ms ++ z.1)).map .dat)).map fun y => (.d y.1, z.2) else none := rfl
@[simp] theorem e_methK : fMethK C ns m N b F fo fk env = (fo env).bind fun p => (val p.2 p.1).bind fun d => match d with
  | .ins C' ns' ds => if C' = C ∧ ns' = ns then (fk p.2).bind fun q => (frzs q.2 q.1).bind fun z => if z.1.length = m ∧ (gix b (.ins C' ns' ds :: z.1)).length = N then (F ((gix b (.ins C' ns' ds :: z.1)).map .dat)).map fun y => (.d y.1, z.2) else none else none
  | _ => none := rfl
@[simp] theorem e_makeK : fMakeK C ns n m ms b G fk env = (fk env).bind fun q => (frzs q.2 q.1).bind fun z => if z.1.length = m ∧ (gix b (ms ++ z.1)).length + 1 = n then (G (gix b (ms ++ z.1))).bind fun fs => if ns.length = fs.length then some (.d (.ins C ns fs), z.2) else none else none := rfl
@[simp] theorem e_make0 : fMake0 C ns n ms G env = if ms.length + 1 = n then (G ms).bind fun fs => if ns.length = fs.length then some (.d (.ins C ns fs), env) else none else none := rfl
@[simp] theorem e_callB : fCallB n F fa env = (fa env).bind fun p => (lents p.2 p.1).bind fun ds => if ds.length = n then (F (ds.map .dat)).bind fun r => if noL r.1 = true then some (.d r.1, p.2) else none else none := rfl
@[simp] theorem e_callKB : fCallKB m N b F fk env = (fk env).bind fun p => (lents p.2 p.1).bind fun ds => if ds.length = m ∧ (gix b ds).length = N then (F ((gix b ds).map .dat)).bind fun r => if noL r.1 = true then some (.d r.1, p.2) else none else none := rfl
@[simp] theorem e_gix0 {α : Type} {l : List α} : gix [] l = [] := rfl
@[simp] theorem e_gix1 {α : Type} {i : Nat} {l : List α} : gix (i :: b) l = match l[i]? with
    | some x => x :: gix b l
    | none => gix b l := gix_cons i b l
end
theorem gix_n {α : Type} (b : List Nat) (l m : List α) : gix b (l ++ m) = gix b (l ++ [] ++ m) := by rw [List.append_nil]
theorem gix_map {α : Type} (x : α) (l : List α) : ∀ b : List Nat, gix (b.map (· + 1)) (x :: l) = gix b l
  | [] => rfl
  | i :: b => by
    rw [List.map_cons, gix_cons, gix_cons, List.getElem?_cons_succ, gix_map x l b]
theorem gix_up {α : Type} (b : List Nat) (x : α) (l : List α) : gix (0 :: b.map (· + 1)) (x :: l) = x :: gix b l := by
  rw [gix_cons, gix_map]
  rfl
end DL

set_option Elab.async false
set_option linter.all false
set_option maxRecDepth 100000
set_option maxHeartbeats 4000000
/-! texts and lists turned round, sorted numbers, a store at a new object -/
namespace DL
open PySem L2 PyProof.Rows
/-! ### x[::-1], x a text or a list -/
def revS (z : Str) : Str := ⟨z.cps.toList.reverse.toArray⟩
def tRevU (K : PySem.W.Frag) (te : TE) : TE := fun σ H Q => te σ H fun x H1 => (∃ z, x = .str z ∧ z.length ≤ sizeLine ∧ Q (.str (revS z)) H1) ∨ ((∃ a xs, x = .ref a ∧ SqL K H1 a xs ∧ ∀ p, H1 p = none → Q (.ref p) (upd H1 p (.lst xs.reverse))) ∨ (∃ a xs, x = .ref a ∧ SqT K H1 a xs ∧ ∀ p, H1 p = none → Q (.ref p) (upd H1 p (.tup xs.reverse))))
section
open PySem.Spec HT
theorem adjust_rev (n : Nat) : Builtin.Slice.sliceAdjust none none (-1) (n : Int) = ((n : Int) - 1, -1) := rfl
theorem places_rev (n : Nat) : Builtin.Slice.slicePlaces ((n : Int) - 1) (-1) (-1) = n := by
  unfold Builtin.Slice.slicePlaces
  have h1 : ¬ ((-1 : Int) > 0) := by omega
  have h2 : (-(-1 : Int)) = 1 := rfl
  simp only [h1, if_false, h2, Int.ediv_one]
  split <;> omega
theorem fm_congr {α β : Type} {f g : α → Option β} : ∀ {l : List α}, (∀ x ∈ l, f x = g x) → l.filterMap f = l.filterMap g
  | [], _ => rfl
  | a :: l, h => by
    rw [List.filterMap_cons, List.filterMap_cons, h a List.mem_cons_self, fm_congr fun x hx => h x (List.mem_cons_of_mem _ hx)]
theorem pick_rev (xs : Array Value) : ((List.range xs.size).filterMap fun (m : Nat) => xs[((xs.size : Int) - 1 + (m : Int) * (-1)).toNat]?) = xs.toList.reverse := by
  have e : ∀ m ∈ List.range xs.size, xs[((xs.size : Int) - 1 + (m : Int) * (-1)).toNat]? = xs.toList.reverse[m]? := fun m hm => by
    have hm := List.mem_range.mp hm
    have h1 : ((xs.size : Int) - 1 + (m : Int) * (-1)).toNat = xs.size - 1 - m := by omega
    rw [h1, List.getElem?_reverse (by simpa using hm)]
    simp
  rw [fm_congr e]
  have key : ∀ l : List Value, (List.range l.length).filterMap (fun m => l[m]?) = l := fun l => by
    have := PySem.W.krv_all l.toArray
    simpa using this
  have k := key xs.toList.reverse
  rw [List.length_reverse, Array.length_toList] at k
  exact k
theorem getItem_tuple_rev {prog : Program} {w : World} {A : Around} {E : Value → Shared → Prop} {s : Shared} {t sl : Addr} {items : Array Value} {vs : Value} {Q : Value → Shared → Prop} (ht : IsTup s.heap t items) (hs : s.heap.IsSliceOf sl .none .none vs) (ps : IsPart vs (some (-1)))
    (h : Q (.ref s.heap.objs.size) { s with heap := s.heap.push { cls := .type "tuple", data := .seq (items.toList.reverse).toArray } })
    (hsz : items.size ≤ sizeLine) : wpAny (model prog w) A (getItem (.ref t) (.ref sl)) Q E s := by
  have htake : sizeOk (.seq (items.toList.reverse).toArray) := by
    show (items.toList.reverse).toArray.size ≤ sizeLine
    rw [List.size_toArray, List.length_reverse, Array.length_toList]
    exact hsz
  obtain ⟨os, hos, hcs, hds⟩ := id hs
  have hTs : s.TypeIs (.ref sl) "slice" := ⟨os, hos, hcs⟩
  unfold getItem
  try with_reducible refine wpAny_holding ?_
  first | refine wpAny_bind (wpAny_pure ?_) | skip
  refine wpAny_bind (wpAny_sequenceKey ht.typeIs (by decide) ?_)
  refine wpAny_bind (wpAny_callSpecial?_slot (name := Str.ofString "__getitem__") ht.typeIs PyProof.Rows.slot_tuple_getitem
    (wpAny_call_entry PyProof.Rows.slot_tuple_getitem ht.typeIs entry_tuple_getitem ?_ (args_tuple_getitem _ _)))
  show wpAny _ _ (Builtin.Tuple.tupleItemsOf (.ref t) >>= _) _ _ s
  refine wpAny_bind (tupleItemsOf_ ht ?_)
  refine wpAny_bind (wpAny_typeOf hTs ?_)
  rw [if_pos (by decide)]
  have ap : ∀ {B : Around} {F : Value → Shared → Prop} {R : Int × Int × Nat → Shared → Prop}, R ((items.size : Int) - 1, -1, items.size) s → wpAny (model prog w) B (Builtin.Slice.sliceApplied (.ref sl) (pure (items.size : Int))) R F s := fun {B} {F} {R} hR => by
    unfold Builtin.Slice.sliceApplied Builtin.Slice.sliceFields
    refine wpAny_bind (wpAny_bind (wpAny_field hos hds (x := .none) rfl (wpAny_bind (wpAny_field hos hds (x := .none) rfl (wpAny_bind (wpAny_field hos hds (x := vs) rfl (wpAny_pure ?_)))))))
    refine wpAny_bind (HT.slicePart_ ps ?_)
    show wpAny _ _ (if ((-1 : Int) == 0) = true then _ else _) _ _ s
    rw [if_neg (by decide)]
    refine wpAny_bind (slicePart_none (wpAny_bind (slicePart_none (wpAny_bind (wpAny_pure ?_)))))
    show wpAny _ _ (match Builtin.Slice.sliceAdjust none none (-1) (items.size : Int) with | (lo, hi) => pure (lo, (-1 : Int), Builtin.Slice.slicePlaces lo hi (-1))) _ _ s
    rw [adjust_rev]
    show wpAny _ _ (pure ((items.size : Int) - 1, (-1 : Int), Builtin.Slice.slicePlaces ((items.size : Int) - 1) (-1) (-1))) _ _ s
    rw [places_rev]
    exact wpAny_pure hR
  refine wpAny_bind (ap ?_)
  have hno : ¬ (((((items.size : Int) - 1) == 0) && ((-1 : Int) == 1) && (items.size == items.size)) = true) := by simp
  show wpAny _ _ (if ((((items.size : Int) - 1) == 0) && ((-1 : Int) == 1) && (items.size == items.size)) = true then _ else _) _ _ s
  rw [if_neg hno, pick_rev]
  first
    | exact wpAny_bind (m := Builtin.Tuple.tupleExact _) (wpAny_newObj_type (wpAny_pure ⟨_, rfl, wpAny_pure h⟩) htake)
    | exact wpAny_bind (m := Builtin.Tuple.tupleExact _) (wpAny_newObj_type (wpAny_bind (wpAny_pure (wpAny_pure ⟨_, rfl, wpAny_pure h⟩))) htake)
    | exact wpAny_bind (wpAny_bind (m := Builtin.Tuple.tupleExact _) (wpAny_newObj_type (wpAny_pure (wpAny_pure ⟨_, rfl, wpAny_pure h⟩)) htake))
    | exact wpAny_bind (wpAny_bind (m := Builtin.Tuple.tupleExact _) (wpAny_newObj_type (wpAny_pure ⟨_, rfl, wpAny_pure h⟩) htake))
end
theorem rev_idx (n : Nat) : Builtin.Str.strSliceIndices none none (-1) n = (List.range n).reverse := by
  rw [← PySem.W.krv_range, ← PySem.W.krv_sliceRange]
  rfl
theorem rev_pick (z : Str) : (((List.range z.length).reverse).filterMap (z.cps[·]?)).toArray = (revS z).cps := by
  rw [List.filterMap_reverse]
  have e : (List.range z.length).filterMap (z.cps[·]?) = z.cps.toList := PySem.W.krv_all z.cps
  rw [e]
  rfl
theorem pe_revU {X : Cx} {e : Expr} {te : TE} {k : Nat} {p1 p2 p3 pos : Pos} (he : PE X e te) : PE X (.Subscript e (.Slice none none (some (.UnaryOp .USub (.Constant (.int 1) k p1) p2)) p3) pos) (tRevU X.K te) := by
  refine ⟨fun pins s σ H Q I h => Subscript_ (thn (he.run pins s σ H _ I h) fun v s1 ⟨x, H1, I1, r1, q1⟩ => ?_)⟩
  have hst : PO X (some (.UnaryOp .USub (.Constant (.int 1) k p1) p2)) (tPart (tUn (rU fun i => .int (-i)) (tC (.int 1)))) := po_some (pe_un un_neg pe_int)
  refine wpAny_Slice (thn (po_none.run pins s1 σ H1 (fun o H2 => o = none ∧ H2 = H1) I1 ⟨rfl, rfl⟩) fun vl s2 ⟨l, H2, I2, pl, el, e2⟩ => ?_)
  subst el e2
  refine thn (po_none.run pins s2 σ H2 (fun o H3 => o = none ∧ H3 = H2) I2 ⟨rfl, rfl⟩) fun vu s3 ⟨u, H3, I3, pu, eu, e3⟩ => ?_
  subst eu e3
  refine thn (hst.run pins s3 σ H3 (fun o H4 => o = some (-1) ∧ H4 = H3) I3 ⟨1, rfl, -1, rfl, rfl, rfl⟩) fun vs s4 ⟨o, H4, I4, ps, eo, e4⟩ => ?_
  subst eo e4
  have I5 : Inv X pins σ H4 { s4 with heap := s4.heap.push { cls := .type "slice", data := .fields #[vl, vu, vs] } } := I4.kept (t' := s4.toks) fun b ob q => Heap.get?_push_of_some _ q
  show wpAny (model X.prog X.w) X.A (subscriptTail e (.Slice none none (some (.UnaryOp .USub (.Constant (.int 1) k p1) p2)) p3) v (.ref s4.heap.objs.size)) (EP X pins σ Q) X.xe { s4 with heap := s4.heap.push { cls := .type "slice", data := .fields #[vl, vu, vs] } }
  rcases q1 with ⟨z, rfl, hz, q⟩ | ⟨a, xs, rfl, hx, q⟩ | ⟨a, xs, rfl, hx, q⟩
  · obtain ⟨t, rfl⟩ := r1
    obtain ⟨ll, rfl, e1⟩ := IsPart.raw pl
    obtain ⟨uu, rfl, e2⟩ := IsPart.raw pu
    obtain ⟨ss, rfl, e3⟩ := IsPart.raw ps
    refine tail_any (ops := [.str z t, .ref s4.heap.objs.size]) (typeIs_str _ _ _) PySem.F.slot_str_getitem.lookup ?_ (by with_unfolding_all rfl)
    have hs0 : ((ss.map (·.1)).getD 1 == 0) = false := by
      rw [e3]
      rfl
    refine wpAny_getItem_str_slice (l := ll) (u := uu) (st := ss) ⟨_, Heap.get?_push_size _ rfl, rfl, rfl⟩ hs0 ?_
    have hp : slicePicked z ll uu ss = (List.range z.length).reverse := by
      unfold slicePicked
      rw [e1, e2, e3]
      exact rev_idx z.length
    have hc : ((ss.map (·.1)).getD 1 == 1 && (slicePicked z ll uu ss).length == z.length) = false := by
      rw [e3]
      rfl
    unfold sliceMade
    rw [hc, hp, if_neg Bool.false_ne_true, rev_pick]
    refine ⟨?_, .str (revS z), H4, I5.tok _, ⟨_, rfl⟩, q⟩
    show (revS z).length ≤ sizeLine
    have : (revS z).length = z.length := by simp [revS, Str.length]
    rw [this]
    exact hz
  · cases r1
    obtain ⟨its, r, ht, hz⟩ := I5.list hx
    have hlen := r.length
    refine tail_any (ops := [.ref a, .ref s4.heap.objs.size]) ht.isList.typeIs (PySem.slot_list_getitem.lookup) ?_ (by with_unfolding_all rfl)
    refine wpAny_getItem_list_slice ht.isList (Heap.IsSliceOf.new _ vl vu vs) pl pu ps (by decide) ?_ (by rw [List.size_toArray]; omega)
    rw [PySem.W.krv_pick]
    refine ⟨.ref _, _, I5.laid (t' := s4.toks) (o := .lst xs.reverse) (fun b ob q => Heap.get?_push_of_some _ q) (Nat.le_refl _) ?_, rfl, q _ (I5.hok.fresh (Nat.le_refl _))⟩
    exact ⟨by rw [List.length_reverse]; exact hz, _, 0, r.reverse, Heap.get?_push_size _ rfl⟩
  · cases r1
    obtain ⟨its, r, ht, hz⟩ := I5.tuple hx
    have hlen : its.toArray.size = xs.length := by rw [List.size_toArray]; exact r.length.symm
    cases pl
    cases pu
    refine tail_any (ops := [.ref a, .ref s4.heap.objs.size]) ht.typeIs (PyProof.Rows.slot_tuple_getitem.lookup) ?_ (by with_unfolding_all rfl)
    refine getItem_tuple_rev ht (Heap.IsSliceOf.new _ .none .none vs) ps ?_ (by rw [hlen]; exact hz)
    refine ⟨.ref _, _, I5.laid (t' := s4.toks) (o := .tup xs.reverse) (fun b ob q => Heap.get?_push_of_some _ q) (Nat.le_refl _) ?_, rfl, q _ (I5.hok.fresh (Nat.le_refl _))⟩
    exact ⟨by rw [List.length_reverse]; exact hz, _, r.reverse, IsTup.new _ _⟩
def gRevU (env : DEnv) (x : RV) : Option RV := match val env x with
  | some (.str z) => if z.length ≤ szL then some (.d (.str (revS z))) else none
  | some (.tup xs) => some (.d (.tup xs.reverse))
  | _ => (seqL env x).map fun xs => .d (.lst xs.reverse)
theorem re_revU {K : PySem.W.Frag} {te : TE} {fe : EF} (he : RE te fe) : RE (tRevU K te) (fUn gRevU fe) := fun C env σ H Q rv env' h R k => by
  unfold fUn at h
  obtain ⟨⟨x, e1⟩, h1, h⟩ := Option.bind_eq_some_iff.mp h
  obtain ⟨z, h2, h⟩ := Option.map_eq_some_iff.mp h
  cases h
  refine he C env σ H _ x e1 h1 R fun v H1 R1 s1 g1 r1 => ?_
  have lst : ((seqL e1 x).map fun xs => RV.d (.lst xs.reverse)) = some rv → (∃ z, v = .str z ∧ z.length ≤ sizeLine ∧ Q (.str (revS z)) H1) ∨ ((∃ a xs, v = .ref a ∧ SqL K H1 a xs ∧ ∀ p, H1 p = none → Q (.ref p) (upd H1 p (.lst xs.reverse))) ∨ (∃ a xs, v = .ref a ∧ SqT K H1 a xs ∧ ∀ p, H1 p = none → Q (.ref p) (upd H1 p (.tup xs.reverse)))) := fun h => by
    obtain ⟨xs, h3, h4⟩ := Option.map_eq_some_iff.mp h
    cases h4
    obtain ⟨a, vs, rfl, ha, hs⟩ := seqL_ok R1 r1 h3
    exact .inr (.inl ⟨a, vs, rfl, SqL.of ha, fin_lst R1 (fun v H2 R2 g2 r2 => k v H2 R2 s1 (g1.trans s1 g2) r2) hs.reverse⟩)
  unfold gRevU at h2
  cases e : val e1 x with
  | none =>
    rw [e] at h2
    exact lst h2
  | some d =>
    rw [e] at h2
    cases d with
    | str y =>
      simp only at h2
      split at h2
      case isFalse => cases h2
      rename_i hz
      cases h2
      have hd := val_ok R1 r1 e
      unfold Dat at hd
      subst hd
      exact .inl ⟨y, rfl, szL_le hz, fin_str R1 fun v H2 R2 g2 r2 => k v H2 R2 s1 (g1.trans s1 g2) r2⟩
    | tup ys =>
      simp only at h2
      cases h2
      obtain ⟨a, vs, rfl, na, ha, hs⟩ := val_tup R1 r1 e
      exact .inr (.inr ⟨a, vs, rfl, SqT.of ha, fin_tup R1 (fun v H2 R2 g2 r2 => k v H2 R2 s1 (g1.trans s1 g2) r2) hs.reverse⟩)
    | _ => exact lst h2
/-! ### sorted(ints) -/
def insI (x : Int) : List Int → List Int
  | [] => [x]
  | y :: l => if x ≤ y then x :: y :: l else y :: insI x l
def sortI : List Int → List Int
  | [] => []
  | x :: l => insI x (sortI l)
theorem insI_perm (x : Int) : ∀ l, (insI x l).Perm (x :: l)
  | [] => .refl _
  | y :: l => by
    unfold insI
    split
    · exact .refl _
    · exact ((insI_perm x l).cons y).trans (.swap x y l)
theorem sortI_perm : ∀ l, (sortI l).Perm l
  | [] => .refl _
  | x :: l => (insI_perm x _).trans ((sortI_perm l).cons x)
theorem insI_pw (x : Int) : ∀ l : List Int, l.Pairwise (· ≤ ·) → (insI x l).Pairwise (· ≤ ·)
  | [], _ => by simp [insI]
  | y :: l, h => by
    unfold insI
    obtain ⟨h1, h2⟩ := List.pairwise_cons.mp h
    split
    · rename_i c
      exact List.pairwise_cons.mpr ⟨fun z hz => (List.mem_cons.mp hz).elim (fun e => e ▸ c) fun hz => Int.le_trans c (h1 z hz), h⟩
    · rename_i c
      refine List.pairwise_cons.mpr ⟨fun z hz => ?_, insI_pw x l h2⟩
      rcases List.mem_cons.mp ((insI_perm x l).mem_iff.mp hz) with e | hz
      · rw [e]
        omega
      · exact h1 z hz
theorem sortI_pw : ∀ l : List Int, (sortI l).Pairwise (· ≤ ·)
  | [] => .nil
  | x :: l => insI_pw x _ (sortI_pw l)
theorem sorted_eq : ∀ {l m : List Int}, l.Perm m → l.Pairwise (· ≤ ·) → m.Pairwise (· ≤ ·) → l = m
  | [], m, p, _, _ => (List.nil_perm.mp p).symm
  | x :: l, [], p, _, _ => absurd p.length_eq (by simp)
  | x :: l, y :: m, p, h, k => by
    obtain ⟨h1, h2⟩ := List.pairwise_cons.mp h
    obtain ⟨k1, k2⟩ := List.pairwise_cons.mp k
    have e : x = y := by
      have a : x ∈ y :: m := p.mem_iff.mp List.mem_cons_self
      have b : y ∈ x :: l := p.mem_iff.mpr List.mem_cons_self
      rcases List.mem_cons.mp a with a | a
      · exact a
      · rcases List.mem_cons.mp b with b | b
        · exact b.symm
        · have := h1 y b
          have := k1 x a
          omega
    subst e
    rw [sorted_eq ((List.perm_cons x).mp p) h2 k2]
noncomputable def gSort (env : DEnv) (x : RV) : Option RV := (seqL env x).bind fun xs => (intL xs).map fun ns => .d (.lst ((sortI ns).map .int))
theorem dats_int {M : Addr → Prop} {H : Hp} : ∀ ns : List Int, Dats M H (ns.map .int) (ns.map .int)
  | [] => .nil
  | n :: ns => .cons (by unfold Dat; rfl) (dats_int ns)
theorem dats_intL {M : Addr → Prop} {H : Hp} : ∀ {ns : List Int} {vs : List V}, Dats M H (ns.map .int) vs → vs = ns.map .int
  | [], vs, h => by
    unfold Dats at h
    exact h
  | n :: ns, vs, h => by
    rw [List.map_cons] at h
    unfold Dats at h
    obtain ⟨v, r, rfl, h1, h2⟩ := h
    unfold Dat at h1
    rw [h1, dats_intL h2]
    rfl
theorem rc_sort {K : PySem.W.Frag} : RC (rSortedI K) (g1 gSort) := rc_1 fun C env σ H Q x v z h R r k => by
  unfold gSort at h
  obtain ⟨xs, h1, h⟩ := Option.bind_eq_some_iff.mp h
  obtain ⟨ns, h2, h⟩ := Option.map_eq_some_iff.mp h
  cases h
  obtain rfl := intL_ok h2
  obtain ⟨a, vs, rfl, ha, hs⟩ := seqL_ok R r h1
  obtain rfl := dats_intL hs
  refine ⟨a, ns, rfl, SqL.of ha, fun ns' p hp hw np => ?_⟩
  obtain rfl := sorted_eq (hp.trans (sortI_perm ns).symm) hw (sortI_pw ns)
  exact fin_lst R k (dats_int _) p np
/-! ### reversed(x) -/
def fRevIt (fa : EF) : IF := fun env => (fa env).bind fun p => (frz p.2 p.1).bind fun q => match q.1 with
  | .lst xs => some (xs.reverse, q.2)
  | _ => none
theorem ri_rev {K : PySem.W.Frag} {ta : TE} {fa : EF} (ha : RE ta fa) : RI (RT.iRevA K ta) (fRevIt fa) := fun C env σ H R ds env' h Re k => by
  unfold fRevIt at h
  obtain ⟨⟨x, e1⟩, h1, h⟩ := Option.bind_eq_some_iff.mp h
  obtain ⟨⟨d, e2⟩, h2, h⟩ := Option.bind_eq_some_iff.mp h
  refine ha C env σ H _ x e1 h1 Re fun v H1 R1 s1 g1 r1 => ?_
  obtain ⟨R2, s2, d2⟩ := frz_ok R1 r1 h2
  simp only at h
  split at h
  · cases h
    unfold Dat at d2
    obtain ⟨a, vs, rfl, na, hha, hs⟩ := d2
    refine ⟨a, vs, rfl, .inl ⟨SqL.of hha, k _ H1 R2 (s1.trans s2) g1 (itd_of hs.reverse ?_)⟩⟩
    rw [List.length_reverse]
    refine walk_rev.mono (fun H q => SqL.of (q a _ na hha)) fun i H x H' hi hg y => ⟨y.1, ?_⟩
    rw [List.getElem?_reverse (by omega)]
    exact y.2
  · cases h
/-! ### a new object, then a store at its first attribute -/
section
variable {C0 : DC} {env : DEnv} {σ : L2.St} {H : Hp}
theorem Rel.setNon (R : Rel C0 env σ H) {i : Nat} {s : Slot} (e : env[i]? = some s) (ns : ∀ (b : OK) xs, s ≠ b.slot xs) (v : Option V) : Rel C0 (env.set i .non) (σ.set i v) H ∧ (∀ a, MM C0 env σ a ↔ MM C0 (env.set i .non) (σ.set i v) a) := by
  have hi : i < env.length := (List.getElem?_eq_some_iff.mp e).1
  have own : ∀ (j : Nat) (b : OK) xs, (env.set i Slot.non)[j]? = some (b.slot xs) → env[j]? = some (b.slot xs) ∧ (σ.set i v)[j]? = σ[j]? := fun j b xs q => by
    rw [set_get] at q
    by_cases h : i = j
    · rw [if_pos h, if_pos hi] at q
      cases b <;> cases q
    · rw [if_neg h] at q
      exact ⟨q, List.getElem?_set_ne h⟩
  have own2 : ∀ (j : Nat) (b : OK) xs, env[j]? = some (b.slot xs) → (env.set i Slot.non)[j]? = some (b.slot xs) ∧ (σ.set i v)[j]? = σ[j]? := fun j b xs q => by
    have h : i ≠ j := fun z => by
      subst z
      rw [e] at q
      exact ns b xs (Option.some.inj q)
    exact ⟨by rw [set_get, if_neg h]; exact q, List.getElem?_set_ne h⟩
  have m : ∀ a, MM C0 env σ a ↔ MM C0 (env.set i .non) (σ.set i v) a := fun a => by
    constructor
    · rintro (z | ⟨j, b, xs, h1, h2⟩)
      · exact .inl z
      · obtain ⟨h3, h4⟩ := own2 j b xs h1
        exact .inr ⟨j, b, xs, h3, by rw [h4]; exact h2⟩
    · rintro (z | ⟨j, b, xs, h1, h2⟩)
      · exact .inl z
      · obtain ⟨h3, h4⟩ := own j b xs h1
        exact .inr ⟨j, b, xs, h3, by rw [← h4]; exact h2⟩
  refine ⟨⟨by rw [List.length_set, List.length_set]; exact R.len, fun j x q => ?_, fun j b xs q => ?_, fun j b xs q => R.fit j b xs (own j b xs q).1, fun j k b c xs ys a q1 q2 h1 h2 => ?_, fun j xs q => R.io j xs (own j (.lst true) _ q).1, fun j a q => ?_, fun j b xs a nb q h1 => ?_, R.keep, R.mem, R.prvTo rfl (fun j x q => by
    rw [set_get] at q
    by_cases h : i = j
    · rw [if_pos h, if_pos hi] at q
      cases q
    · rw [if_neg h] at q
      exact ⟨q, List.getElem?_set_ne h⟩) (fun _ _ _ q => q) (fun a z => .inl ((m a).mpr z))⟩, m⟩
  · rw [set_get] at q
    by_cases h : i = j
    · rw [if_pos h, if_pos hi] at q
      cases q
    · rw [if_neg h] at q
      obtain ⟨u, h1, h2⟩ := R.dat j x q
      exact ⟨u, by rw [List.getElem?_set_ne h]; exact h1, h2.to (fun _ _ _ q => q) fun a z => .inl ((m a).mpr z)⟩
  · obtain ⟨h3, h4⟩ := own j b xs q
    obtain ⟨a, vs, h5, h6, h7⟩ := R.own j b xs h3
    exact ⟨a, vs, by rw [h4]; exact h5, h6, Dats.to (fun _ _ _ q => q) (fun a z => .inl ((m a).mpr z)) _ _ h7⟩
  · obtain ⟨h3, h4⟩ := own j _ _ q1
    obtain ⟨h5, h6⟩ := own k _ _ q2
    exact R.inj j k b c xs ys a h3 h5 (by rw [← h4]; exact h1) (by rw [← h6]; exact h2)
  · obtain ⟨h1, xs, h2, h3⟩ := R.iob j a q
    obtain ⟨h4, h5⟩ := own2 j (.lst true) _ h2
    exact ⟨h1, xs, h4, by rw [h5]; exact h3⟩
  · obtain ⟨h3, h4⟩ := own j _ _ q
    exact R.no j b xs a nb h3 (by rw [← h4]; exact h1)
end
def isNonS : Option Slot → Bool
  | some .non => true
  | _ => false
def sMkSet (i : Nat) (C : Addr) (f : Str) (ns : List Str) (n : Nat) (G : List Dv → Option (List Dv)) (fa : AF) (fe : EF) : SF := fun env => (fa env).bind fun p => (frzs p.2 p.1).bind fun q => if q.1.length + 1 = n ∧ isNonS q.2[i]? = true then (G q.1).bind fun fs => if (f :: ns).length = fs.length ∧ ns.length ≤ 100 then (fe q.2).bind fun r => (frz r.2 r.1).bind fun z => if isNonS z.2[i]? = true then some (.nx (z.2.set i (.dat (.ins C (f :: ns) (z.1 :: fs.tail))))) else none else none else none
section
variable {K : PySem.W.Frag} {E : XK} {ta : TA} {fa : AF} {te : TE} {fe : EF} {C : Addr} {f : Str} {ns : List Str} {n i : Nat} {G : List Dv → Option (List Dv)}
theorem isNonS_of {o : Option Slot} (h : isNonS o = true) : o = some .non := by
  unfold isNonS at h
  split at h
  · rfl
  · cases h
theorem rs_mkset (c : Cls K C) (na : NoAttr K C f) (ha : RA ta fa) (he : RE te fe) : RS (tSeq (tAsg (tMake C (spI C n (f :: ns) G) [] E ta) (gName i)) (sFld K (tVar i) te f)) (sMkSet i C f ns n G fa fe) := fun C0 env σ H D o h R k => by
  unfold sMkSet at h
  obtain ⟨⟨rs, e1⟩, h1, k1⟩ := Option.bind_eq_some_iff.mp h
  obtain ⟨⟨ds, e2⟩, h2, k2⟩ := Option.bind_eq_some_iff.mp k1
  clear h k1
  split at k2
  case isFalse => cases k2
  rename_i hn
  obtain ⟨fs, h3, k3⟩ := Option.bind_eq_some_iff.mp k2
  split at k3
  case isFalse => cases k3
  rename_i hl
  obtain ⟨⟨rv, e3⟩, h4, k4⟩ := Option.bind_eq_some_iff.mp k3
  obtain ⟨⟨d, e4⟩, h5, k5⟩ := Option.bind_eq_some_iff.mp k4
  clear k2 k3 k4
  split at k5
  case isFalse => cases k5
  rename_i hz
  cases k5
  have hi2 := isNonS_of hn.2
  have hi4 := isNonS_of hz
  refine ha C0 env σ H _ rs e1 h1 R fun vs H1 R1 s1 g1 r1 => ?_
  obtain ⟨R2, s2, d2⟩ := frzs_ok R1 r1 h2
  intro x dx nx ndx nex
  rw [List.append_nil]
  refine ⟨x, dx, vs, fun a => MM C0 e2 σ a ∨ a = x ∨ a = dx, ds, fs, rfl, upd_same, h3, by rw [d2.length]; exact hn.1, hl.1, ?_, .inr (.inl rfl), fun a z => ?_, fun H' vs' keep ex hs => ⟨rfl, ?_⟩⟩
  · refine Dats.to (fun a o n q => ?_) (fun a z => ?_) _ _ d2
    · rw [upd_ne (ne_of_none q nx), upd_ne (ne_of_none q ndx)]
      exact q
    · rcases z with z | rfl | rfl
      · exact .inl z
      · exact .inr nx
      · exact .inr ndx
  · by_cases zx : a = x
    · rw [zx, upd_same]
      exact fun z => by cases z
    · rw [upd_ne zx]
      by_cases zd : a = dx
      · rw [zd, upd_same]
        exact fun z => by cases z
      · rw [upd_ne zd]
        rcases z with z | z | z
        · exact R2.memM a z
        · exact (zx z).elim
        · exact (zd z).elim
  · have kk := make_keep nx ndx keep
    -- the new object stands apart
    have Rp := (R2.plus nx (.ins C dx ((f :: ns).zip vs'))).grow (H' := H') fun a o q => by
      by_cases zx : a = x
      · rw [zx, upd_same] at q
        rw [zx, ex]
        exact q
      · rw [upd_ne zx] at q
        exact kk a o q
    obtain ⟨R3, mm⟩ := Rp.setNon hi2 (fun b _ z => OK.nonon z.symm) (some (.ref x))
    have ee : e2.set i .non = e2 := by
      apply List.ext_getElem?
      intro j
      rw [set_get]
      by_cases hj : i = j
      · subst hj
        rw [if_pos rfl, if_pos (List.getElem?_eq_some_iff.mp hi2).1, hi2]
      · rw [if_neg hj]
    rw [ee] at R3 mm
    have hsl : i < σ.length := by rw [R2.len]; exact (List.getElem?_eq_some_iff.mp hi2).1
    show (fun D' σ' H' => sFld K (tVar i) te f D' σ' H') D (σ.set i (some (.ref x))) H'
    refine he (C0.plus x) e2 (σ.set i (some (.ref x))) H' _ rv e3 h4 R3 fun v H4 R4 s4 g4 r4 => ?_
    obtain ⟨R5, s5, d5⟩ := frz_ok R4 r4 h5
    have nio : ∀ j a, C0.io = some (j, a) → a ≠ x := fun j a e z => R2.mem x (z ▸ R2.hio j a e) nx
    have nw3 : ¬ W e2 (σ.set i (some (.ref x))) x := R3.plusW nio
    have nw5 : ¬ W e4 (σ.set i (some (.ref x))) x := R5.plusW nio
    have hx4 : H4 x = some (.ins C dx ((f :: ns).zip vs')) := g4 x _ nw3 ex
    obtain ⟨v0, vt, rfl⟩ : ∃ v0 vt, vs' = v0 :: vt := by
      cases vs' with
      | nil =>
        have := hs.length
        rw [← hl.1] at this
        simp at this
      | cons v0 vt => exact ⟨v0, vt, rfl⟩
    obtain ⟨f0, ft, rfl⟩ : ∃ f0 ft, fs = f0 :: ft := by
      cases fs with
      | nil => simp at hl
      | cons f0 ft => exact ⟨f0, ft, rfl⟩
    have pf : putF f v ((f :: ns).zip (v0 :: vt)) = (f :: ns).zip (v :: vt) := by
      show (if f = f then (f, v) :: ns.zip vt else _) = _
      rw [if_pos rfl]
      rfl
    refine ⟨.ref x, ?_, x, C, dx, (f :: ns).zip (v0 :: vt), rfl, hx4, c, na, ?_, ?_⟩
    · rw [set_get, if_pos rfl, if_pos hsl]
    · rw [List.length_zip, List.length_cons]
      have := hl.2
      omega
    rw [pf]
    have h0 : C0.H0 x = none := R2.h0 nx
    have R6 := R5.putD (o := .ins C dx ((f :: ns).zip (v :: vt))) nw5 (fun z => R2.mem x z nx) h0 ⟨_, hx4⟩
    have R7 := R6.unplus R2.hio
    have nm : ¬ MM C0 e4 (σ.set i (some (.ref x))) x := by
      rintro (z | z)
      · exact R2.mem x z nx
      · exact nw5 z
    have up : ∀ {ds vs}, Dats (MM (C0.plus x) e4 (σ.set i (some (.ref x)))) H4 ds vs → Dats (MM C0 e4 (σ.set i (some (.ref x)))) (upd H4 x (.ins C dx ((f :: ns).zip (v :: vt)))) ds vs := fun q =>
      Dats.to (fun a u n q => by rw [upd_ne (fun z => n (by rw [z]; exact .inl (.inr rfl)))]; exact q) (fun a z => .inl (z.imp .inl id)) _ _ q
    have dt : Dats (MM (C0.plus x) e4 (σ.set i (some (.ref x)))) H4 ft vt := by
      have q : Dats (MM (C0.plus x) e2 (σ.set i (some (.ref x)))) H' ft vt := by
        unfold Dats at hs
        obtain ⟨v', r', ev, _, q2⟩ := hs
        cases ev
        refine Dats.to (fun _ _ _ q => q) (fun a z => .inl ?_) _ _ q2
        rcases (mm a).mpr z with (z | z) | z
        · exact .inl (.inl z)
        · exact .inr (.inl z)
        · exact .inl (.inr z)
      exact (Grow.refl _ _ H4).dats s5 (g4.dats s4 q)
    have hd : Dat (MM C0 e4 (σ.set i (some (.ref x)))) (upd H4 x (.ins C dx ((f :: ns).zip (v :: vt)))) (.ins C (f :: ns) (d :: ft)) (.ref x) := by
      unfold Dat
      refine ⟨x, dx, v :: vt, rfl, nm, upd_same, by simpa using hl.1, up (.cons d5 dt)⟩
    have R8 := (R7.setDat hi4 (fun _ z => by cases z) hd).1
    rw [List.set_set] at R8
    exact k _ _ R8
theorem rs_seqA {t u v : TS} {g g2 : SF} (h : RS (tSeq t u) g) (k : RS v g2) : RS (tSeq t (tSeq u v)) (sSeq g g2) := show RS (tSeq (tSeq t u) v) _ from rs_seq h k
end
section
variable {env : DEnv} {C : Addr} {f : Str} {ns : List Str} {n i : Nat} {G : List Dv → Option (List Dv)} {fa : AF} {fe : EF}
@[simp] theorem e_mkset : sMkSet i C f ns n G fa fe env = (fa env).bind fun p => (frzs p.2 p.1).bind fun q => if q.1.length + 1 = n ∧ isNonS q.2[i]? = true then (G q.1).bind fun fs => if (f :: ns).length = fs.length ∧ ns.length ≤ 100 then (fe q.2).bind fun r => (frz r.2 r.1).bind fun z => if isNonS z.2[i]? = true then some (.nx (z.2.set i (.dat (.ins C (f :: ns) (z.1 :: fs.tail))))) else none else none else none := rfl
@[simp] theorem e_revIt : fRevIt fe env = (fe env).bind fun p => (frz p.2 p.1).bind fun q => match q.1 with
  | .lst xs => some (xs.reverse, q.2)
  | _ => none := rfl
end
end DL

set_option Elab.async false
set_option linter.all false
set_option maxRecDepth 100000
set_option maxHeartbeats 4000000
/-! max of one list or tuple of whole numbers, with and without default; text.count -/
namespace DL
open PySem PySem.Spec PySem.W PyProof.Rows L2
theorem reads_ints {h : Heap} : ∀ {ns : List Int} {its : List Value}, Vals (ns.map V.int) its → ReadsAll h its (ns.map PyData.int) []
  | [], _, .nil => .nil
  | n :: ns, _, .cons r rs => by
    obtain ⟨t, rfl⟩ := r
    have := ReadsAll.cons (Reads.int (h := h) n t) (reads_ints rs)
    exact this
theorem alike_ints (ns : List Int) : AlikeAll (ns.map PyData.int) := by
  refine ⟨fun x hx y hy => ?_, fun x hx => ?_⟩
  · obtain ⟨i, _, rfl⟩ := List.mem_map.mp hx
    obtain ⟨j, _, rfl⟩ := List.mem_map.mp hy
    rfl
  · obtain ⟨i, _, rfl⟩ := List.mem_map.mp hx
    intro z
    cases z
theorem depth_ints : ∀ ns : List Int, PyData.depthAll (ns.map PyData.int) = 0
  | [] => rfl
  | n :: ns => by
    rw [List.map_cons]
    simp only [PyData.depthAll, PyData.depth, depth_ints ns]
    rfl
/-- max(xs): a list or a tuple of whole numbers -/
def rMaxU (K : PySem.W.Frag) : List V → Hp → VK → Prop := fun vs H Q => ∃ (a : Addr) (n : Int) (ns : List Int), vs = [V.ref a] ∧ (SqL K H a ((n :: ns).map V.int) ∨ SqT K H a ((n :: ns).map V.int)) ∧ Q (.int (ns.foldl max n)) H
theorem callMaxU {X : Cx} (hc : X.calm = true) (hu : X.A.units + 64 < cLine) : CallR X (.builtin "max") (rMaxU X.K) := by
  intro pins s σ H xs us Q I r h
  obtain ⟨a, n, ns, rfl, hT, q⟩ := h
  obtain ⟨u, rfl, r1⟩ := vals1 r
  cases r1
  have hd : ∀ v h' bs, Reads h' v (maxD (.int n) (ns.map PyData.int)) bs → ∃ t, v = .int (ns.foldl max n) t := fun v h' bs z => by
    rw [maxD_ints] at z
    cases z
    exact ⟨_, rfl⟩
  rcases hT with hT | hT
  · obtain ⟨its, rv, hl, _⟩ := I.list hT
    have hr : ReadsAll s.heap its.toArray.toList (PyData.int n :: ns.map PyData.int) [] := by
      have := reads_ints (h := s.heap) (ns := n :: ns) rv
      simpa using this
    refine max_list_data (I.ok.hd hc) hl.isList hr (alike_ints (n :: ns)) (by have := depth_ints (n :: ns); rw [List.map_cons] at this; rw [this]; omega) fun i v h' tk bs _ z hk => ?_
    obtain ⟨t, rfl⟩ := hd v h' bs z
    exact ⟨.int _, H, I.kept hk, ⟨_, rfl⟩, q⟩
  · obtain ⟨its, rv, ⟨⟨cls, dd, data, sl⟩, ho, hcl, nn, hdd⟩, hs⟩ := I.tuple hT
    simp only at hcl hdd
    subst hcl hdd
    have ht : s.heap.IsTuple a its.toArray := ⟨_, ho, rfl, nn, rfl⟩
    have hr : ReadsAll s.heap its.toArray.toList (PyData.int n :: ns.map PyData.int) [] := by
      have := reads_ints (h := s.heap) (ns := n :: ns) rv
      simpa using this
    refine max_tuple_data (I.ok.hd hc) ht hr (alike_ints (n :: ns)) (by have := depth_ints (n :: ns); rw [List.map_cons] at this; rw [this]; omega) fun i v h' tk bs _ z hk => ?_
    obtain ⟨t, rfl⟩ := hd v h' bs z
    exact ⟨.int _, H, I.kept hk, ⟨_, rfl⟩, q⟩
def gMaxU (env : DEnv) (x : RV) : Option RV := (asSeq env x).bind fun xs => (intL xs).bind fun ns => match ns with
  | [] => none
  | n :: r => some (.d (.int (r.foldl max n)))
theorem rc_maxU {K : PySem.W.Frag} : RC (rMaxU K) (g1 gMaxU) := rc_1 fun C env σ H Q x v z h R r k => by
  unfold gMaxU at h
  obtain ⟨xs, e, h⟩ := Option.bind_eq_some_iff.mp h
  obtain ⟨ns, e2, h⟩ := Option.bind_eq_some_iff.mp h
  match ns, h with
  | n :: ns, h =>
    cases h
    obtain ⟨a, vs, rfl, ha, hs⟩ := asSeq_ok (K := K) R r e
    obtain rfl := intL_ok e2
    rw [hs.ints] at ha
    exact ⟨a, n, ns, rfl, ha, fin_int R k⟩
/-- max(xs, default=d): a list of whole numbers -/
def rMaxD (K : PySem.W.Frag) : List V → List V → Hp → VK → Prop := fun vs zs H Q => ∃ (a : Addr) (ns : List Int) (d : Int), vs = [V.ref a] ∧ zs = [V.int d] ∧ SqL K H a (ns.map V.int) ∧ Q (.int (match ns with | [] => d | n :: r => r.foldl max n)) H
theorem callMaxD {X : Cx} (hc : X.calm = true) (hu : X.A.units + 64 < cLine) : CallRK X (.builtin "max") ["default"] (rMaxD X.K) := by
  intro pins s σ H xs zs us ws Q I r r2 h
  obtain ⟨a, ns, d, rfl, rfl, hT, q⟩ := h
  obtain ⟨u, rfl, r1⟩ := vals1 r
  cases r1
  obtain ⟨u2, rfl, r3⟩ := vals1 r2
  obtain ⟨td, rfl⟩ := r3
  obtain ⟨its, rv, hl, _⟩ := I.list hT
  have hr : ReadsAll s.heap its.toArray.toList (ns.map PyData.int) [] := by
    have := reads_ints (h := s.heap) (ns := ns) rv
    simpa using this
  show wpAny _ _ (call (.builtin "max") [.ref a] [(Str.ofString "default", .int d td)]) _ _ _
  refine max_list_default (I.ok.hd hc) hl.isList hr (alike_ints ns) (by rw [depth_ints ns]; omega) (fun hz h' tk hk => ?_) fun y ys i v h' tk bs hz _ z hk => ?_
  · have hz : ns = [] := by simpa using hz
    subst hz
    exact ⟨.int _, H, I.kept hk, ⟨_, rfl⟩, q⟩
  · match ns, hz, q with
    | n :: ns, hz, q =>
      rw [List.map_cons] at hz
      injection hz with h1 h2
      subst h1 h2
      rw [maxD_ints] at z
      cases z
      exact ⟨.int _, H, I.kept hk, ⟨_, rfl⟩, q⟩
def gMaxD (d : Int) (env : DEnv) (x : RV) : Option RV := (seqL env x).bind fun xs => (intL xs).map fun ns => .d (.int (match ns with | [] => d | n :: r => r.foldl max n))
theorem re_maxD {K : PySem.W.Frag} {te : TE} {fe : EF} {d : Int} (he : RE te fe) : RE (tCKw (rMaxD K) (tCons te tNil) (tCons (tC (.int d)) tNil)) (fUn (gMaxD d) fe) := fun C env σ H Q rv env' h R k => by
  unfold fUn at h
  obtain ⟨⟨x, e1⟩, h1, h⟩ := Option.bind_eq_some_iff.mp h
  obtain ⟨z, h2, h⟩ := Option.map_eq_some_iff.mp h
  cases h
  refine he C env σ H _ x e1 h1 R fun v H1 R1 s1 g1 r1 => ?_
  unfold gMaxD at h2
  obtain ⟨xs, e, h2⟩ := Option.bind_eq_some_iff.mp h2
  obtain ⟨ns, e2, h2⟩ := Option.map_eq_some_iff.mp h2
  cases h2
  obtain ⟨a, vs, rfl, ha, hs⟩ := seqL_ok R1 r1 e
  obtain rfl := intL_ok e2
  rw [hs.ints] at ha
  exact ⟨a, ns, d, rfl, rfl, SqL.of ha, fin_int R1 fun v H2 R2 g2 r2 => k v H2 R2 s1 (g1.trans s1 g2) r2⟩
/-! ### text.count -/
def rCount : V → List V → Hp → VK → Prop := fun x xs H Q => ∃ a b, x = .str a ∧ xs = [.str b] ∧ Q (.int (Txt.count a b)) H
def gCount (a : Str) (env : DEnv) : List RV → Option RV
  | [x] => (asS env x).map fun b => .d (.int (Txt.count a b))
  | _ => none
theorem mtCount {X : Cx} : MtR X "str.count" rCount := mt_count
theorem rm_count : RM rCount gCount := fun C env σ H Q a xs vs z h R rs k => by
  match xs, h with
  | [x], h =>
    obtain ⟨b, h1, h⟩ := Option.map_eq_some_iff.mp (h : (asS env x).map _ = some z)
    cases h
    obtain ⟨v, rfl, r1⟩ := rvs1 rs
    obtain rfl := asS_ok R r1 h1
    exact ⟨a, b, rfl, rfl, fin_int R k⟩
end DL

set_option Elab.async false
set_option linter.all false
set_option maxRecDepth 100000
set_option maxHeartbeats 2000000
namespace DL
open PySem L2
/-- a, b, c = e1, e2, [..] -/
def sPar3C (i j l : Nat) (fa fb : EF) (fc : LF) : SF := fun env => (fa env).bind fun p => (frz p.2 p.1).bind fun x => (fb x.2).bind fun q => (frz q.2 q.1).bind fun y => (fc y.2).bind fun r => if canSet r.2 l = true then (fName i x.1 (r.2.set l (.own false r.1))).bind fun e1 => (fName j y.1 e1).map Out.nx else none
theorem rs_par3C {i j l : Nat} (hil : i ≠ l) (hjl : j ≠ l) {ta tb tc : TE} {fa fb : EF} {fc : LF} (ha : RE ta fa) (hb : RE tb fb) (hc : RL tc fc) : RS (tPar3 i j l (tCons ta (tCons tb (tCons tc tNil)))) (sPar3C i j l fa fb fc) := fun C env σ H D o h R k => by
  unfold sPar3C at h
  obtain ⟨⟨x, e1⟩, h1, h⟩ := Option.bind_eq_some_iff.mp h
  obtain ⟨⟨dx, e2⟩, h2, h⟩ := Option.bind_eq_some_iff.mp h
  obtain ⟨⟨y, e3⟩, h3, h⟩ := Option.bind_eq_some_iff.mp h
  obtain ⟨⟨dy, e4⟩, h4, h⟩ := Option.bind_eq_some_iff.mp h
  obtain ⟨⟨ys, e5⟩, h5, h⟩ := Option.bind_eq_some_iff.mp h
  split at h
  case isFalse => cases h
  rename_i hcs
  obtain ⟨e7, h7, h⟩ := Option.bind_eq_some_iff.mp h
  obtain ⟨e8, h8, h⟩ := Option.map_eq_some_iff.mp h
  cases h
  obtain ⟨s, es, ns⟩ := canSet_ok hcs
  refine ha C env σ H _ x e1 h1 R fun v H1 R1 s1 g1 r1 => ?_
  obtain ⟨R2, s2, d2⟩ := frz_ok R1 r1 h2
  refine hb C e2 σ H1 _ y e3 h3 R2 fun w H2 R3 s3 g3 r3 => ?_
  obtain ⟨R4, s4, d4⟩ := frz_ok R3 r3 h4
  have dx' : Dat (MM C e4 σ) H2 dx v := (Grow.refl _ _ H2).dat s4 (g3.dat s3 d2)
  refine hc C e4 σ H2 _ ys e5 h5 R4 fun p vs H3 dp h0 hm Rp s5 g5 hp hs => ?_
  obtain ⟨R6, m6⟩ := Rp.ownSet R.hio h0 hm es ns hp hs
  refine ⟨v, w, _, rfl, ?_⟩
  show D.nx (((σ.set i (some v)).set j (some w)).set l (some (.ref p))) H3
  rw [List.set_comm _ _ hjl, List.set_comm _ _ hil]
  refine rg_name C _ _ H3 dx v (fun σ' H' => D.nx (σ'.set j (some w)) H') e7 h7 R6 ((dp dx v dx').to (fun _ _ _ q => q) fun a z => .inl (m6 a z)) fun σ7 R7 _ o7 _ _ => ?_
  have m7 : ∀ a, MM C e7 σ7 a → MM C (e5.set l (.own false ys)) (σ.set l (some (.ref p))) a := fun a z => z.imp id fun ⟨j, b, xs, q1, q2⟩ => ⟨j, b, xs, (o7 j b xs q1).1, by rw [← (o7 j b xs q1).2]; exact q2⟩
  exact rg_name C e7 σ7 H3 dy w _ e8 h8 R7 (((dp dy w d4).to (fun _ _ _ q => q) fun a z => .inl (m6 a z)).to (fun _ _ _ q => q) fun a z => .inl (m7 a z)) fun σ8 R8 _ _ _ _ => k σ8 H3 R8
/-- the same where a name is a cell: the tuple is built and unpacked -/
theorem rs_tup3C {i j l : Nat} {K : PySem.W.Frag} (hil : i ≠ l) (hjl : j ≠ l) {ta tb tc : TE} {fa fb : EF} {fc : LF} (ha : RE ta fa) (hb : RE tb fb) (hc : RL tc fc) : RS (tAsg (tTup (tCons ta (tCons tb (tCons tc tNil)))) (gTup K 3 (gCons (gName i) (gCons (gName j) (gCons (gName l) gNil))))) (sPar3C i j l fa fb fc) := fun C env σ H D o h R k => by
  unfold sPar3C at h
  obtain ⟨⟨x, e1⟩, h1, h⟩ := Option.bind_eq_some_iff.mp h
  obtain ⟨⟨dx, e2⟩, h2, h⟩ := Option.bind_eq_some_iff.mp h
  obtain ⟨⟨y, e3⟩, h3, h⟩ := Option.bind_eq_some_iff.mp h
  obtain ⟨⟨dy, e4⟩, h4, h⟩ := Option.bind_eq_some_iff.mp h
  obtain ⟨⟨ys, e5⟩, h5, h⟩ := Option.bind_eq_some_iff.mp h
  split at h
  case isFalse => cases h
  rename_i hcs
  obtain ⟨e7, h7, h⟩ := Option.bind_eq_some_iff.mp h
  obtain ⟨e8, h8, h⟩ := Option.map_eq_some_iff.mp h
  cases h
  obtain ⟨s, es, ns⟩ := canSet_ok hcs
  refine ha C env σ H _ x e1 h1 R fun v H1 R1 s1 g1 r1 => ?_
  obtain ⟨R2, s2, d2⟩ := frz_ok R1 r1 h2
  refine hb C e2 σ H1 _ y e3 h3 R2 fun w H2 R3 s3 g3 r3 => ?_
  obtain ⟨R4, s4, d4⟩ := frz_ok R3 r3 h4
  have dx' : Dat (MM C e4 σ) H2 dx v := (Grow.refl _ _ H2).dat s4 (g3.dat s3 d2)
  refine hc C e4 σ H2 _ ys e5 h5 R4 fun p vs H3 dp h0 hm Rp s5 g5 hp hs => ?_
  refine ⟨by show 3 ≤ sizeLine; rw [PySem.sizeLine_eq]; omega, fun q nq => ?_⟩
  have qp : p ≠ q := fun z => by rw [z, nq] at hp; cases hp
  have Rq := Rp.alloc (o := .tup [v, w, .ref p]) nq
  obtain ⟨R6, m6⟩ := Rq.ownSet R.hio h0 hm es ns ((upd_ne qp).trans hp) ((Grow.new nq).dats (Sh.refl _) hs)
  refine ⟨q, _, rfl, SqT.of upd_same, rfl, v, _, rfl, w, _, rfl, .ref p, _, rfl, rfl, ?_⟩
  show D.nx (((σ.set i (some v)).set j (some w)).set l (some (.ref p))) _
  rw [List.set_comm _ _ hjl, List.set_comm _ _ hil]
  refine rg_name C _ _ _ dx v (fun σ' H' => D.nx (σ'.set j (some w)) H') e7 h7 R6 (((Grow.new nq).dat (Sh.refl _) (dp dx v dx')).to (fun _ _ _ q => q) fun a z => .inl (m6 a z)) fun σ7 R7 _ o7 _ _ => ?_
  have m7 : ∀ a, MM C e7 σ7 a → MM C (e5.set l (.own false ys)) (σ.set l (some (.ref p))) a := fun a z => z.imp id fun ⟨j, b, xs, q1, q2⟩ => ⟨j, b, xs, (o7 j b xs q1).1, by rw [← (o7 j b xs q1).2]; exact q2⟩
  exact rg_name C e7 σ7 _ dy w _ e8 h8 R7 ((((Grow.new nq).dat (Sh.refl _) (dp dy w d4)).to (fun _ _ _ q => q) fun a z => .inl (m6 a z)).to (fun _ _ _ q => q) fun a z => .inl (m7 a z)) fun σ8 R8 _ _ _ _ => k σ8 _ R8
section
variable {i j l : Nat} {fa fb : EF} {fc : LF} {env : DEnv}
@[simp] theorem e_par3C : sPar3C i j l fa fb fc env = (fa env).bind fun p => (frz p.2 p.1).bind fun x => (fb x.2).bind fun q => (frz q.2 q.1).bind fun y => (fc y.2).bind fun r => if canSet r.2 l = true then (fName i x.1 (r.2.set l (.own false r.1))).bind fun e1 => (fName j y.1 e1).map Out.nx else none := rfl
end
end DL

set_option Elab.async false
set_option linter.all false
set_option maxRecDepth 100000
set_option maxHeartbeats 2000000
namespace DL
open PySem L2
theorem Rel.give {C : DC} {env : DEnv} {σ : L2.St} {H : Hp} {i : Nat} {b0 : OK} {xs : List Dv} (R : Rel C env σ H) (e : env[i]? = some (b0.slot xs)) (nb : b0 ≠ .lst true) :
    ∃ a vs, σ[i]? = some (some (.ref a)) ∧ H a = some (b0.obj vs) ∧ Rel (C.plus a) (env.set i .non) σ H ∧ C.H0 a = none ∧ ¬ C.M0 a ∧ Sh env (env.set i .non) ∧ Dats (MM (C.plus a) (env.set i .non) σ) H xs vs ∧ (∀ d v, Dat (MM C env σ) H d v → Dat (MM (C.plus a) (env.set i .non) σ) H d v) := by
  obtain ⟨a, vs, h1, h2, h3⟩ := R.own i _ _ e
  have hi : i < env.length := (List.getElem?_eq_some_iff.mp e).1
  have eq : ∀ (j : Nat) s, (env.set i Slot.non)[j]? = some s → s ≠ .non → j ≠ i ∧ env[j]? = some s := fun j s q n => by
    by_cases z : i = j
    · subst z
      rw [List.getElem?_set_self hi] at q
      exact (n (Option.some.inj q).symm).elim
    · rw [List.getElem?_set_ne z] at q
      exact ⟨fun w => z w.symm, q⟩
  have mm : ∀ x, MM (C.plus a) (env.set i Slot.non) σ x → MM C env σ x := fun x z => by
    rcases z with (z | z) | ⟨j, b, ys, h4, h5⟩
    · exact .inl z
    · exact .inr ⟨i, _, _, e, z ▸ h1⟩
    · exact .inr ⟨j, b, ys, (eq j _ h4 (fun z => OK.nonon z)).2, h5⟩
  have up : ∀ d v, Dat (MM C env σ) H d v → Dat (MM (C.plus a) (env.set i Slot.non) σ) H d v := fun d v q => q.to (fun _ _ _ q => q) fun x z => .inl (mm x z)
  have ups : ∀ d v, Dats (MM C env σ) H d v → Dats (MM (C.plus a) (env.set i Slot.non) σ) H d v := fun d v q => Dats.to (fun _ _ _ q => q) (fun x z => .inl (mm x z)) _ _ q
  obtain ⟨n1, n2⟩ := R.no i b0 xs a nb e h1
  refine ⟨a, vs, h1, h2, ?_, n1, n2, ⟨List.length_set .., fun j b zs q => ⟨zs, (eq j _ q (fun z => OK.nonon z)).2⟩⟩, ups _ _ h3, up⟩
  exact {
      len := by rw [R.len, List.length_set]
      dat := fun j d q => by
        obtain ⟨v, q1, q2⟩ := R.dat j d (eq j _ q (fun z => by cases z)).2
        exact ⟨v, q1, up _ _ q2⟩
      own := fun j b zs q => by
        obtain ⟨x, us, q1, q2, q3⟩ := R.own j b zs (eq j _ q (fun z => OK.nonon z)).2
        exact ⟨x, us, q1, q2, ups _ _ q3⟩
      fit := fun j b zs q => R.fit j b zs (eq j _ q (fun z => OK.nonon z)).2
      inj := fun j l b c zs us x q1 q2 q3 q4 => R.inj j l b c zs us x (eq j _ q1 (fun z => OK.nonon z)).2 (eq l _ q2 (fun z => OK.nonon z)).2 q3 q4
      io := fun j zs q => R.io j zs (eq j _ q (fun z => by cases z)).2
      iob := fun j x q => by
        obtain ⟨q1, zs, q2, q3⟩ := R.iob j x q
        refine ⟨.inl q1, zs, ?_, q3⟩
        rw [List.getElem?_set_ne (fun z => by rw [← z, e] at q2; cases b0 <;> cases q2; exact nb rfl)]
        exact q2
      no := fun j b zs x nb' q1 q2 => by
        obtain ⟨n, q1⟩ := eq j _ q1 (fun z => OK.nonon z)
        obtain ⟨q3, q4⟩ := R.no j b zs x nb' q1 q2
        refine ⟨q3, fun z => z.elim q4 fun z => n (R.inj j i _ _ _ _ x q1 e q2 (by rw [h1, z]))⟩
      keep := R.keep
      mem := fun x z => z.elim (R.mem x) fun z => by rw [z, h2]; simp
      prv := R.prvTo rfl (fun j d q => ⟨(eq j _ q (fun z => by cases z)).2, rfl⟩) (fun _ _ _ q => q) (fun x z => .inl (mm x z)) }
/-- an own list given up: what is returned is new -/
def lGive (i : Nat) : LF := fun env => match env[i]? with
  | some (.own false xs) => some (xs, env.set i .non)
  | _ => none
@[simp] theorem e_give {i : Nat} {env : DEnv} : lGive i env = match env[i]? with
  | some (.own false xs) => some (xs, env.set i .non)
  | _ => none := rfl
theorem rl_give {i : Nat} : RL (tVar i) (lGive i) := fun C env σ H Q xs env' h R k => by
  unfold lGive at h
  split at h
  · rename_i ys e
    cases h
    obtain ⟨a, vs, h1, h2, R1, n1, n2, s1, d1, up⟩ := R.give (b0 := .lst false) e (fun z => by cases z)
    exact ⟨_, h1, k a vs H up n1 n2 R1 s1 (Grow.refl _ _ _) h2 d1⟩
  · cases h
end DL

set_option Elab.async false
set_option linter.all false
set_option maxRecDepth 100000
set_option maxHeartbeats 4000000
/-! == of tuples that hold an instance with its own ==, where no repr is under way -/
namespace DG
open PySem L2 PySem.Spec PyProof.Rows
section
variable {P : Program} {w : World} {K : PySem.W.Frag} {mg : Str → Option Value} {base : Heap} {C : CXT} {k : Nat} {f : Addr} {fd : FuncData} {ps : List Str}
theorem FnG.imp {sp sp' : Sp} (F : FnG P w K mg base C k f fd ps sp) (h : ∀ vs H Q E, sp' vs H Q E → sp vs H Q E) : FnG P w K mg base C k f fd ps sp' :=
  ⟨fun vs H Q E z => F.len vs H Q E (h _ _ _ _ z), fun A out s H ar us vs Q E g hr e b r z => F.run A out s H ar us vs Q E g hr e b r (h _ _ _ _ z)⟩
end
def EqT (X : Cx) (n : Nat) (D : Eqv) : Prop :=
  ∀ (A : Around) (pins : List (Addr × Obj)) (s : Shared) (σ : L2.St) (H : Hp) (x y : V) (u v : Value), A.guards = some [] → Sub X n A → Inv X pins σ H s → RelV x u → RelV y v → D x y H →
    wpAny (model X.prog X.w) A (eqBool u v) (fun r s' => r = true ∧ ∃ H', Inv X pins σ H' s' ∧ Ext H H') X.xe s
def RcT (X : Cx) (n : Nat) (D : Eqv) : Prop :=
  ∀ (A : Around) (pins : List (Addr × Obj)) (s : Shared) (σ : L2.St) (H : Hp) (x y : V) (u v : Value), A.guards = some [] → Sub X n A → Inv X pins σ H s → RelV x u → RelV y v → D x y H →
    wpAny (model X.prog X.w) A (richCompare .Eq u v) (fun r s' => r = .bool true ∧ ∃ H', Inv X pins σ H' s' ∧ Ext H H') X.xe s
section
variable {X : Cx} {n m : Nat} {D D' : Eqv}
theorem EqG.eqT (h : EqG X n D) : EqT X n D := fun A pins s σ H x y u v _ sb => h A pins s σ H x y u v sb
theorem EqT.mono (h : EqT X n D) (hn : n ≤ m) : EqT X m D := fun A pins s σ H x y u v g sb => h A pins s σ H x y u v g (sb.mono hn)
theorem EqT.or (h : EqT X n D) (h' : EqT X n D') : EqT X n (fun x y H => D x y H ∨ D' x y H) := fun A pins s σ H x y u v g sb I rx ry d => by
  rcases d with d | d
  · exact h A pins s σ H x y u v g sb I rx ry d
  · exact h' A pins s σ H x y u v g sb I rx ry d
theorem turnT (hD : Mon D) (h : EqT X n D) {A : Around} (g : A.guards = some []) (sb : Sub X (n + 1) A) {pins : List (Addr × Obj)} {σ : L2.St} {H : Hp} {xs ys : List V} {its its2 : List Value} (p : Prs D xs ys H) (r : Vals xs its) (r2 : Vals ys its2)
    (i : Nat) (h1 : i < its.toArray.size) (h2 : i < its2.toArray.size) (s' : Shared) (l : LoopI X pins σ H s') :
    wpAny (model X.prog X.w) A.in1 (eqBool its.toArray[i] its2.toArray[i]) (fun r s2 => r = true ∧ LoopI X pins σ H s2) X.xe s' := by
  obtain ⟨H1, I1, e1⟩ := l
  have g1 : its[i]? = some its.toArray[i] := by
    have h1' : i < its.length := by simpa using h1
    rw [List.getElem?_eq_getElem h1'] <;> simp
  have g2 : its2[i]? = some its2.toArray[i] := by
    have h2' : i < its2.length := by simpa using h2
    rw [List.getElem?_eq_getElem h2'] <;> simp
  have k1 : i < xs.length := by rw [r.length]; simpa using h1
  have k2 : i < ys.length := by rw [r2.length]; simpa using h2
  obtain ⟨u, hu, ru⟩ := r.get (List.getElem?_eq_getElem k1)
  obtain ⟨v, hv, rv⟩ := r2.get (List.getElem?_eq_getElem k2)
  rw [g1] at hu
  rw [g2] at hv
  rw [Option.some.inj hu, Option.some.inj hv]
  refine wpAny_mono (h A.in1 pins s' σ H1 _ _ u v (show A.guards = some [] from g) sb.in1 I1 ru rv (hD _ _ _ _ e1 (p.2 i _ _ (List.getElem?_eq_getElem k1) (List.getElem?_eq_getElem k2)))) (fun r s2 q => ?_) fun _ _ x => x
  obtain ⟨hr, H2, I2, e2⟩ := q
  exact ⟨hr, H2, I2, e1.trans e2⟩
theorem rcT_tup (hD : Mon D) (h : EqT X n D) : RcT X (n + 1) (DTup X.K D) := by
  intro A pins s σ H x y u v g sb I rx ry d
  obtain ⟨a, b, xs, ys, rfl, rfl, ha, hb, p⟩ := d
  cases rx
  cases ry
  obtain ⟨its, r, e, z⟩ := I.tuple ha
  obtain ⟨its2, r2, e2, z2⟩ := I.tuple hb
  have hsz : its.toArray.size = its2.toArray.size := by rw [List.size_toArray, List.size_toArray, ← r.length, ← r2.length]; exact p.1
  exact GQ.rc_tupG hsz sb.room.units0 (fun _ s' => LoopI X pins σ H s') e e2 (fun i h1 h2 s' q => turnT hD h g sb p r r2 i h1 h2 s' q) (fun s' q => ⟨rfl, q⟩) ⟨H, I, Ext.rfl'⟩
theorem rcT_ins {CX : CXT} {C f : Addr} {fd : FuncData} {ps : List Str} {R : Addr → Addr → Hp → Prop} {E : XK} (F : FnG X.prog X.w X.K X.mg X.base CX n f fd ps (spEq R))
    (hs : PySem.W.findIn X.K (.ref C) "__eq__" = some (some (.ref f))) (hf : PySem.W.isFn X.K (.ref f) = true) (hb : Binds X.K fd ps []) (hx : Passes CX X E) : RcT X n (DIns C R) := by
  intro A pins s σ H x y u v g sb I rx ry d
  obtain ⟨a, b, dx, dy, fs, gs, rfl, rfl, ha, hb', hr⟩ := d
  cases rx
  cases ry
  obtain ⟨mA, J, _⟩ := ins_get I.hok ha
  obtain ⟨mB, J', _⟩ := ins_get I.hok hb'
  obtain ⟨od, J, _⟩ := J.look
  obtain ⟨od', J', _⟩ := J'.look
  obtain ⟨m, hF⟩ := I.fr
  refine PySem.W.cmp_K (op := .Eq) (tb := .ref C) sb.room.units0 hF I.ok.mod.kin J J'.type (by simp [PySem.W.notFirst]) hs hf ?_
  have hsp : spEq R [.ref a, .ref b] H (fun v H' => v = .bl true ∧ Ext H H') E := ⟨a, b, rfl, hr, fun H' e => ⟨rfl, e⟩⟩
  have e0 : Env0 X.prog X.w X.K X.mg X.base A X.stack s H := by
    have e := I.env0
    exact ⟨by rw [sb.fr]; exact e.frames, e.mod, e.bs, e.bsz, e.funs, e.frf, e.hok, e.bare⟩
  have hl := F.len _ _ _ _ hsp
  have r2 : Vals [V.ref a, V.ref b] [Value.ref a, Value.ref b] := .cons rfl (.cons rfl .nil)
  refine wpAny_call (codeAny_mono (F.run A X.stack s H ⟨[.ref a, .ref b], []⟩ [.ref a, .ref b] [.ref a, .ref b] _ E g sb.room e0 (by
    have := hb s [.ref a, .ref b] I.kIn (by simpa using hl)
    simpa using this) r2 hsp) fun r s' hq => ?_)
  cases r with
  | error e => exact hx pins σ H s e s' I hq
  | ok fl =>
    cases fl with
    | ret w =>
      obtain ⟨z, H', I', rz, ez, ex⟩ := I.after hq
      subst ez
      cases rz
      exact ⟨rfl, H', I', ex⟩
    | next => exact False.elim hq
    | brk => exact False.elim hq
    | cont => exact False.elim hq
theorem RcT.eqT (h : RcT X n D) (hr : ∀ x y H, D x y H → ∃ a b, x = .ref a ∧ y = .ref b) : EqT X n D := by
  intro A pins s σ H x y u v g sb I rx ry d
  obtain ⟨a, b, rfl, rfl⟩ := hr _ _ _ d
  cases rx
  cases ry
  by_cases hab : a = b
  · subst hab
    exact SeqAt.EqAt.same (A := A) (s := s) (.ref a) X.prog X.w X.xe _ ⟨rfl, H, I, Ext.rfl'⟩
  · refine GQ.eqBool_refG hab (wpAny_mono (h A pins s σ H (.ref a) (.ref b) _ _ g sb I rfl rfl d) (fun r s' q => ?_) fun _ _ x => x)
    obtain ⟨hr', q⟩ := q
    exact ⟨true, hr', rfl, q⟩
theorem op_eqT (h : RcT X n D) (g : X.A.guards = some []) (hr : Room n X.A) : OpR X (compareOp .Eq) (rEqG D) := by
  intro pins s σ H x y v u Q I rx ry hq
  obtain ⟨d, q⟩ := hq
  show wpAny (model X.prog X.w) X.A (richCompare .Eq v u) (EP X pins σ Q) X.xe s
  refine wpAny_mono (h X.A pins s σ H x y v u g ⟨hr, rfl⟩ I rx ry d) (fun r s' z => ?_) fun _ _ x => x
  obtain ⟨hr', H', I', e⟩ := z
  subst hr'
  exact ⟨.bl true, H', I', rfl, q H' e⟩
end
end DG
namespace DL
open PySem L2
/-- two instances at these addresses are equal, by what the own == computes -/
def RIns (C : Addr) (ns : List Str) (F : FnF) (a b : Addr) (H : Hp) : Prop := ∃ (M : Addr → Prop) (d1 d2 : List Dv), (∀ x, M x → H x ≠ none) ∧ Dat M H (.ins C ns d1) (.ref a) ∧ Dat M H (.ins C ns d2) (.ref b) ∧ ∃ ys, F [.dat (.ins C ns d1), .dat (.ins C ns d2)] = some (.bl true, ys)
theorem RIns.ext {C : Addr} {ns : List Str} {F : FnF} {a b : Addr} {H H' : Hp} (e : Ext H H') (h : RIns C ns F a b H) : RIns C ns F a b H' := by
  obtain ⟨M, d1, d2, m, h1, h2, h3⟩ := h
  have hn : ∀ x, M x → H' x ≠ none := fun x z w => by
    cases q : H x with
    | none => exact m x z q
    | some o => rw [e x o q] at w; cases w
  exact ⟨M, d1, d2, hn, h1.to (fun a o _ q => e a o q) fun a z => .inl z, h2.to (fun a o _ q => e a o q) fun a z => .inl z, h3⟩
theorem fn_eqT {P : Program} {w : World} {K : PySem.W.Frag} {mg : Str → Option Value} {base : Heap} {CT : CXT} {k : Nat} {f : Addr} {fd : FuncData} {ps : List Str} {F : FnF} {C : Addr} {ns : List Str}
    (G : DG.FnG P w K mg base CT k f fd ps (spD 2 F)) : DG.FnG P w K mg base CT k f fd ps (spEq (RIns C ns F)) := G.imp fun vs H Q E z => by
  obtain ⟨a, b, rfl, ⟨M, d1, d2, m, h1, h2, ys, h3⟩, q⟩ := z
  have dd := Dats.cons h1 (.one h2)
  refine ⟨M, none, [Dv.ins C ns d1, Dv.ins C ns d2].map .dat, .bl true, ys, h3, rfl, ⟨rfl, fun i d q => ?_, fun i c xs q => ?_, fun i a q => (by cases q), fun a q => m a q, nop_map⟩, fun v H' keep hr _ => ?_⟩
  · obtain ⟨d', z, q'⟩ := map_dat_get q
    cases z
    exact dd.get q'
  · obtain ⟨d', z, q'⟩ := map_dat_get q
    exact (OK.nodat z).elim
  · unfold Dat at hr
    rw [hr]
    exact q H' fun a o z => keep a o (fun i z => by cases z) z
/-- what tuples of an instance and a number are compared by -/
abbrev DT (K : PySem.W.Frag) (C : Addr) (ns : List Str) (F : FnF) : Eqv := DTup K (fun x y H => DFlat x y H ∨ DIns C (RIns C ns F) x y H)
theorem rcT_DT {X : Cx} {CT : CXT} {k : Nat} {C f : Addr} {fd : FuncData} {ps ns : List Str} {F : FnF} {E : XK} (G : DG.FnG X.prog X.w X.K X.mg X.base CT k f fd ps (spD 2 F))
    (hs : PySem.W.findIn X.K (.ref C) "__eq__" = some (some (.ref f))) (hf : PySem.W.isFn X.K (.ref f) = true) (hb : Binds X.K fd ps []) (hx : Passes CT X E) : DG.RcT X (k + 1) (DT X.K C ns F) :=
  DG.rcT_tup (mon_flat.or (mon_ins fun _ _ _ _ e r => r.ext e)) (((DG.EqG.eqT eqG_flat).mono (Nat.zero_le _)).or ((DG.rcT_ins (fn_eqT G) hs hf hb hx).eqT fun _ _ _ d => let ⟨a, b, _, _, _, _, hx, hy, _⟩ := d; ⟨a, b, hx, hy⟩))
/-- (instance, number) == (instance, number), where it is so -/
def fEqT (C : Addr) (ns : List Str) (F : FnF) (fa fb : EF) : EF := fun env => (fa env).bind fun p => (fb p.2).bind fun q => (val q.2 p.1).bind fun x => (val q.2 q.1).bind fun y => match x, y with
  | .tup [.ins C1 n1 d1, .int i], .tup [.ins C2 n2 d2, .int j] => if C1 = C ∧ C2 = C ∧ n1 = ns ∧ n2 = ns ∧ i = j then (F [.dat (.ins C1 n1 d1), .dat (.ins C2 n2 d2)]).bind fun z => match z.1 with
    | .bl true => some (.d (.bl true), q.2)
    | _ => none
    else none
  | _, _ => none
theorem tup2 {M : Addr → Prop} {H : Hp} {C : Addr} {ns : List Str} {ds : List Dv} {i : Int} {v : V} (h : Dat M H (.tup [.ins C ns ds, .int i]) v) : ∃ a b dx vs, v = .ref a ∧ H a = some (.tup [.ref b, .int i]) ∧ Dat M H (.ins C ns ds) (.ref b) ∧ H b = some (.ins C dx (ns.zip vs)) := by
  unfold Dat at h
  obtain ⟨a, vs, e, _, h, q⟩ := h
  unfold Dats at q
  obtain ⟨v1, r1, e1, q1, q⟩ := q
  unfold Dats at q
  obtain ⟨v2, r2, e2, q2, q⟩ := q
  unfold Dats at q
  have q1' := q1
  unfold Dat at q1 q2
  obtain ⟨b, dx, us, e3, _, h3, _, _⟩ := q1
  subst e3
  subst e2
  subst q2
  subst q
  subst e1
  exact ⟨a, b, dx, us, e, h, q1', h3⟩
section
variable {ta tb : TE} {fa fb : EF} {C : Addr} {ns : List Str} {K : PySem.W.Frag}
theorem re_eqT {F : FnF} (ha : RE ta fa) (hb : RE tb fb) : RE (tOp (rEqG (DT K C ns F)) ta tb) (fEqT C ns F fa fb) := fun C0 env σ H Q rv env' h R k => by
  unfold fEqT at h
  obtain ⟨⟨x, e1⟩, h1, k1⟩ := Option.bind_eq_some_iff.mp h
  obtain ⟨⟨y, e2⟩, h2, k2⟩ := Option.bind_eq_some_iff.mp k1
  obtain ⟨dx, h3, k3⟩ := Option.bind_eq_some_iff.mp k2
  obtain ⟨dy, h4, k4⟩ := Option.bind_eq_some_iff.mp k3
  clear h k1 k2 k3
  split at k4
  case h_2 => cases k4
  rename_i C1 n1 d1 i C2 n2 d2 j
  split at k4
  case isFalse => cases k4
  rename_i hc
  obtain ⟨rfl, rfl, rfl, rfl, rfl⟩ := hc
  obtain ⟨⟨z, ys⟩, h5, k5⟩ := Option.bind_eq_some_iff.mp k4
  clear k4
  simp only at k5
  split at k5
  case h_2 => cases k5
  cases k5
  refine ha C0 env σ H _ x e1 h1 R fun vx H1 R1 s1 g1 r1 => ?_
  refine hb C0 e1 σ H1 _ y _ h2 R1 fun vy H2 R2 s2 g2 r2 => ?_
  have dx := val_ok R2 (r1.step s2 g2) h3
  have dy := val_ok R2 r2 h4
  obtain ⟨a, a', xa, va, rfl, ea, da, ia⟩ := tup2 dx
  obtain ⟨b, b', xb, vb, rfl, eb, db, ib⟩ := tup2 dy
  refine ⟨⟨a, b, _, _, rfl, rfl, .inl (.inl ea), .inl (.inl eb), .cons (.inr ⟨a', b', xa, xb, _, _, rfl, rfl, ia, ib, _, d1, d2, fun a q => R2.memM a q, da, db, ys, h5⟩) (.cons (.inl ⟨rfl, rfl, by simp [eqV]⟩) .nil)⟩, fun H' ex => ?_⟩
  have kk : ∀ a o, H2 a = some o → H' a = some o := fun a o q => ex a o q
  exact k _ H' (R2.grow kk) (s1.trans s2) ((g1.trans s1 g2).trans (s1.trans s2) fun a o _ q => kk a o q) (show Dat (MM C0 env' σ) H' (.bl true) _ by unfold Dat; rfl)
@[simp] theorem e_eqT {F : FnF} {env : DEnv} : fEqT C ns F fa fb env = (fa env).bind fun p => (fb p.2).bind fun q => (val q.2 p.1).bind fun x => (val q.2 q.1).bind fun y => match x, y with
  | .tup [.ins C1 n1 d1, .int i], .tup [.ins C2 n2 d2, .int j] => if C1 = C ∧ C2 = C ∧ n1 = ns ∧ n2 = ns ∧ i = j then (F [.dat (.ins C1 n1 d1), .dat (.ins C2 n2 d2)]).bind fun z => match z.1 with
    | .bl true => some (.d (.bl true), q.2)
    | _ => none
    else none
  | _, _ => none := rfl
end
end DL

set_option Elab.async false
set_option linter.all false
set_option maxRecDepth 100000
set_option maxHeartbeats 2000000
namespace DL
open PySem L2 PyProof.Rows
/-! ### dicts -/
def kD : Key → Dv
  | .inl i => .int i
  | .inr s => .str s
def keyOf : Dv → Option Key
  | .int i => some (.inl i)
  | .str s => some (.inr s)
  | _ => none
theorem keyOf_ok {M : Addr → Prop} {H : Hp} {d : Dv} {k : Key} {v : V} (h : keyOf d = some k) (q : Dat M H d v) : v = kV k := by
  unfold keyOf at h
  split at h <;> cases h
  · unfold Dat at q
    exact q
  · unfold Dat at q
    exact q
theorem kD_dat {M : Addr → Prop} {H : Hp} (k : Key) : Dat M H (kD k) (kV k) := by
  cases k <;> (simp only [kD]; unfold Dat; rfl)
def dGet (k : Key) : List Key → List Dv → Option Dv
  | k' :: ks, d :: ds => if k' = k then some d else dGet k ks ds
  | _, _ => none
def dPutL (k : Key) (d : Dv) : List Key → List Dv → List Dv
  | k' :: ks, e :: ds => (if k' = k then d else e) :: dPutL k d ks ds
  | _, ds => ds
theorem dGet_ok {M : Addr → Prop} {H : Hp} {k : Key} : ∀ {ks : List Key} {ds : List Dv} {vs : List V}, ks.length = ds.length → Dats M H ds vs → (dGet k ks ds = none ∧ valV (ks.zip vs) k = none) ∨ ∃ d v, dGet k ks ds = some d ∧ valV (ks.zip vs) k = some v ∧ Dat M H d v
  | [], ds, vs, _, _ => .inl ⟨by cases ds <;> rfl, rfl⟩
  | k' :: ks, [], vs, hl, _ => by cases hl
  | k' :: ks, d :: ds, vs, hl, h => by
    unfold Dats at h
    obtain ⟨v, r, rfl, h1, h2⟩ := h
    by_cases c : k' = k
    · refine .inr ⟨d, v, by unfold dGet; rw [if_pos c], ?_, h1⟩
      unfold valV
      rw [List.zip_cons_cons, List.find?_cons_of_pos (by simpa using c)]
      rfl
    · have e1 : dGet k (k' :: ks) (d :: ds) = dGet k ks ds := by
        conv => lhs; unfold dGet
        rw [if_neg c]
      have e2 : valV ((k' :: ks).zip (v :: r)) k = valV (ks.zip r) k := by
        unfold valV
        rw [List.zip_cons_cons, List.find?_cons_of_neg (by simpa using c)]
      rw [e1, e2]
      exact dGet_ok (by simpa using hl) h2
theorem dPutL_ok {M : Addr → Prop} {H : Hp} {k : Key} {d : Dv} {v : V} (hd : Dat M H d v) : ∀ {ks : List Key} {ds : List Dv} {vs : List V}, ks.length = ds.length → Dats M H ds vs → ∃ ws, Dats M H (dPutL k d ks ds) ws ∧ ((ks.zip vs).map fun kv => if kv.1 = k then (kv.1, v) else kv) = ks.zip ws
  | [], ds, vs, hl, h => ⟨vs, by unfold dPutL; exact h, rfl⟩
  | k' :: ks, [], vs, hl, _ => by cases hl
  | k' :: ks, e :: ds, vs, hl, h => by
    unfold Dats at h
    obtain ⟨w, r, rfl, h1, h2⟩ := h
    obtain ⟨ws, q1, q2⟩ := dPutL_ok hd (by simpa using hl) h2
    by_cases c : k' = k
    · refine ⟨v :: ws, ?_, ?_⟩
      · unfold dPutL
        rw [if_pos c]
        exact .cons hd q1
      · rw [List.zip_cons_cons, List.map_cons, if_pos c, q2, List.zip_cons_cons]
    · refine ⟨w :: ws, ?_, ?_⟩
      · unfold dPutL
        rw [if_neg c]
        exact .cons h1 q1
      · rw [List.zip_cons_cons, List.map_cons, if_neg c, q2, List.zip_cons_cons]
theorem dPutL_len {k : Key} {d : Dv} : ∀ {ks : List Key} {ds : List Dv}, (dPutL k d ks ds).length = ds.length
  | [], ds => by unfold dPutL; rfl
  | k' :: ks, [] => by unfold dPutL; rfl
  | k' :: ks, e :: ds => by
    unfold dPutL
    rw [List.length_cons, List.length_cons, dPutL_len]
theorem any_key {k : Key} : ∀ {ks : List Key} {vs : List V}, ks.length = vs.length → (((ks.zip vs).any fun kv => decide (kv.1 = k)) = true ↔ k ∈ ks)
  | [], vs, _ => by simp
  | k' :: ks, [], h => by cases h
  | k' :: ks, v :: vs, h => by
    rw [List.zip_cons_cons, List.any_cons, Bool.or_eq_true, any_key (by simpa using h), List.mem_cons, decide_eq_true_eq]
    simp [eq_comm]
/-- d.get(k, x) -/
def fDGet2 (fd fk fx : EF) : EF := fun env => (fd env).bind fun p => (frz p.2 p.1).bind fun q => match q.1 with
  | .dct ks ds => (fk q.2).bind fun r => (frz r.2 r.1).bind fun y => (keyOf y.1).bind fun k => (fx y.2).bind fun s => (frz s.2 s.1).map fun x => (.d ((dGet k ks ds).getD x.1), x.2)
  | _ => none
theorem re_dget2 {td ty tx : TE} {fd fk fx : EF} (hd : RE td fd) (hk : RE ty fk) (hx : RE tx fx) : RE (tDGet2 td ty tx) (fDGet2 fd fk fx) := fun C env σ H Q rv env' h R k => by
  unfold fDGet2 at h
  obtain ⟨⟨x, e1⟩, h1, h⟩ := Option.bind_eq_some_iff.mp h
  obtain ⟨⟨d, e2⟩, h2, h⟩ := Option.bind_eq_some_iff.mp h
  simp only at h
  split at h
  case h_2 => cases h
  rename_i ks ds
  obtain ⟨⟨y, e3⟩, h3, h⟩ := Option.bind_eq_some_iff.mp h
  obtain ⟨⟨dy, e4⟩, h4, h⟩ := Option.bind_eq_some_iff.mp h
  obtain ⟨key, h5, h⟩ := Option.bind_eq_some_iff.mp h
  obtain ⟨⟨z, e5⟩, h6, h⟩ := Option.bind_eq_some_iff.mp h
  obtain ⟨⟨dz, e6⟩, h7, h⟩ := Option.map_eq_some_iff.mp h
  cases h
  refine hd C env σ H _ x e1 h1 R fun v H1 R1 s1 g1 r1 => ?_
  obtain ⟨R2, s2, d2⟩ := frz_ok R1 r1 h2
  have d2' := d2
  unfold Dat at d2'
  obtain ⟨a, vs, rfl, na, ha, hl, hs⟩ := d2'
  refine ⟨a, rfl, .inl ⟨_, .inl ha⟩, ?_⟩
  refine hk C e2 σ H1 _ y e3 h3 R2 fun w H2 R3 s3 g3 r3 => ?_
  obtain ⟨R4, s4, d4⟩ := frz_ok R3 r3 h4
  have d5 := (Grow.refl _ _ H2).dat s4 (g3.dat s3 d2)
  refine hx C e4 σ H2 _ z e5 h6 R4 fun u H3 R5 s5 g5 r5 => ?_
  obtain ⟨R6, s6, d6⟩ := frz_ok R5 r5 h7
  have d7 := (Grow.refl _ _ H3).dat s6 (g5.dat s5 d5)
  unfold Dat at d7
  obtain ⟨a', vs', ea, na', ha', hl', hs'⟩ := d7
  cases ea
  obtain rfl := keyOf_ok h5 d4
  have st := (s1.trans s2).trans ((s3.trans s4).trans (s5.trans s6))
  have gr : Grow env σ H H3 := (g1.trans (s1.trans s2) g3).trans ((s1.trans s2).trans (s3.trans s4)) g5
  rcases dGet_ok (k := key) hl' hs' with ⟨q1, q2⟩ | ⟨e, v, q1, q2, q3⟩
  · refine ⟨none, .inl ⟨_, key, .inl ha', rfl, q2.symm⟩, ?_⟩
    exact k u H3 R6 st gr (by rw [q1]; exact d6)
  · refine ⟨some v, .inl ⟨_, key, .inl ha', rfl, q2.symm⟩, ?_⟩
    exact k v H3 R6 st gr (by rw [q1]; exact q3)
/-- d[k] = v -/
def isOwnD : Option Slot → Bool
  | some (.ownD _ _) => true
  | _ => false
theorem isOwnD_of {o : Option Slot} (h : isOwnD o = true) : ∃ ks ds, o = some ((OK.dct ks).slot ds) := by
  unfold isOwnD at h
  split at h
  · exact ⟨_, _, rfl⟩
  · cases h
open Classical in
noncomputable def sPutD (i : Nat) (fk fv : EF) : SF := fun env => (fv env).bind fun p => (frz p.2 p.1).bind fun q => if isOwnD q.2[i]? = true then (fk q.2).bind fun r => (frz r.2 r.1).bind fun y => (keyOf y.1).bind fun k => match y.2[i]? with
  | some (.ownD ks ds) => if ks.length ≤ 1000 then some (.nx (y.2.set i (.ownD (if k ∈ ks then ks else ks ++ [k]) (if k ∈ ks then dPutL k q.1 ks ds else ds ++ [q.1])))) else none
  | _ => none else none
theorem rs_dput {i : Nat} {ty tv : TE} {fk fv : EF} (hk : RE ty fk) (hv : RE tv fv) : RS (sDPut (tVar i) ty tv) (sPutD i fk fv) := fun C env σ H D o h R k => by
  unfold sPutD at h
  obtain ⟨⟨x, e1⟩, h1, h⟩ := Option.bind_eq_some_iff.mp h
  obtain ⟨⟨d, e2⟩, h2, h⟩ := Option.bind_eq_some_iff.mp h
  split at h
  case isFalse => cases h
  rename_i hown
  obtain ⟨⟨y, e3⟩, h3, h⟩ := Option.bind_eq_some_iff.mp h
  obtain ⟨⟨dy, e4⟩, h4, h⟩ := Option.bind_eq_some_iff.mp h
  obtain ⟨key, h5, h⟩ := Option.bind_eq_some_iff.mp h
  simp only at h
  split at h
  case h_2 => cases h
  rename_i ks ds he
  split at h
  case isFalse => cases h
  rename_i hsz
  cases h
  refine hv C env σ H _ x e1 h1 R fun v H1 R1 s1 g1 r1 => ?_
  obtain ⟨R2, s2, d2⟩ := frz_ok R1 r1 h2
  obtain ⟨ks0, ds0, e0⟩ := isOwnD_of hown
  obtain ⟨a, _, sa, _, _⟩ := R2.own i _ _ e0
  refine ⟨.ref a, sa, ?_⟩
  refine hk C e2 σ H1 _ y e3 h3 R2 fun w H2 R3 s3 g3 r3 => ?_
  obtain ⟨R4, s4, d4⟩ := frz_ok R3 r3 h4
  have d5 := (Grow.refl _ _ H2).dat s4 (g3.dat s3 d2)
  obtain rfl := keyOf_ok h5 d4
  obtain ⟨a', vs, sa', ha, hs⟩ := R4.own i (.dct ks) ds he
  rw [sa] at sa'
  cases sa'
  have hl : ks.length = ds.length := R4.fit i (.dct ks) ds he
  have hlv : ks.length = vs.length := by rw [hs.length]; exact hl
  refine ⟨a, _, rfl, .inl ⟨ks.zip vs, key, ha, rfl, ?_, rfl⟩, ?_⟩
  · rw [PySem.sizeLine_eq, List.length_zip]
    omega
  unfold putK
  by_cases c : key ∈ ks
  · rw [if_pos ((any_key hlv).mpr c)]
    simp only [if_pos c] at k
    obtain ⟨ws, q1, q2⟩ := dPutL_ok (k := key) d5 hl hs
    rw [q2]
    exact k _ _ (R4.putO (b := .dct ks) (b' := .dct ks) (ys := dPutL key d ks ds) he ⟨(fun z => by cases z), (fun z => by cases z)⟩ (by show ks.length = _; rw [dPutL_len]; exact hl) sa q1).1
  · rw [if_neg (fun z => c ((any_key hlv).mp z))]
    simp only [if_neg c] at k
    have q2 : ks.zip vs ++ [(key, v)] = (ks ++ [key]).zip (vs ++ [v]) := by
      rw [List.zip_append hlv]
      rfl
    rw [q2]
    exact k _ _ (R4.putO (b := .dct ks) (b' := .dct (ks ++ [key])) (ys := ds ++ [d]) he ⟨(fun z => by cases z), (fun z => by cases z)⟩ (by show (ks ++ [key]).length = _; rw [List.length_append, List.length_append, hl]; rfl) sa (hs.app (.one d5))).1
/-- a, b = e, {} -/
def sParDD (i j : Nat) (fa : EF) : SF := fun env => (fa env).bind fun p => (frz p.2 p.1).bind fun x => if canSet x.2 j = true then (fName i x.1 (x.2.set j (.ownD [] []))).map Out.nx else none
theorem rs_parDD {i j : Nat} (hij : i ≠ j) {ta : TE} {fa : EF} (ha : RE ta fa) : RS (tPar i j (tCons ta (tCons tDNewK tNil))) (sParDD i j fa) := fun C env σ H D o h R k => by
  unfold sParDD at h
  obtain ⟨⟨x, e1⟩, h1, h⟩ := Option.bind_eq_some_iff.mp h
  obtain ⟨⟨dx, e2⟩, h2, h⟩ := Option.bind_eq_some_iff.mp h
  split at h
  case isFalse => cases h
  rename_i hc
  obtain ⟨e4, h4, h⟩ := Option.map_eq_some_iff.mp h
  cases h
  obtain ⟨s, es, ns⟩ := canSet_ok hc
  refine ha C env σ H _ x e1 h1 R fun v H1 R1 s1 g1 r1 => ?_
  obtain ⟨R2, s2, d2⟩ := frz_ok R1 r1 h2
  intro p np
  have Rp := R2.plus np (.dK [])
  obtain ⟨R4, m4⟩ := Rp.ownSetG R.hio (R2.h0 np) (fun z => R2.mem p z np) es ns (kk := .dct []) (by intro z; cases z) (xs := []) rfl (vs := []) upd_same .nil
  refine ⟨v, _, rfl, ?_⟩
  show D.nx ((σ.set i (some v)).set j (some (.ref p))) _
  rw [List.set_comm _ _ hij]
  have dx' : Dat (MM (C.plus p) e2 σ) (upd H1 p (.dK [])) dx v := d2.to (fun a u _ q => by rw [upd_ne (ne_of_none q np)]; exact q) fun a z => by
    rcases z with (z | z) | z
    · exact .inl (.inl z)
    · exact .inr (z ▸ np)
    · exact .inl (.inr z)
  exact rg_name C _ _ _ dx v _ e4 h4 R4 (dx'.to (fun _ _ _ q => q) fun a z => .inl (m4 a z)) fun σ6 R6 _ _ _ _ => k σ6 _ R6
/-! ### for k, v in d.items() -/
def immB : Dv → Bool
  | .non => true
  | .bl _ => true
  | .int _ => true
  | .str _ => true
  | _ => false
theorem imm_dat {M M' : Addr → Prop} {H H' : Hp} {d : Dv} {v : V} (h : immB d = true) (q : Dat M H d v) : Dat M' H' d v := by
  unfold immB at h
  split at h <;> first | (unfold Dat at q ⊢; exact q) | cases h
def slotImm : Slot → Bool
  | .non => true
  | .dat d => immB d
  | _ => false
def pairsD (ks : List Key) (ds : List Dv) : List Dv := (ks.zip ds).map fun p => .tup [kD p.1, p.2]
def sItems (i : Nat) (gf : GF) (gb : SF) : SF := fun env => match env[i]? with
  | some (.dat (.dct ks ds)) => if ((env.set i .non).all slotImm && ds.all immB) = true then loopF gf gb (pairsD ks ds) (env.set i .non) else none
  | _ => none
open Classical in
noncomputable def DC.lock (C : DC) (a : Addr) (u : HO) : DC := ⟨fun x => C.M0 x ∨ x = a, fun x => if x = a then some u else C.H0 x, none, fun _ => False, fun _ h => h.elim⟩
section
variable {C : DC} {env e : DEnv} {σ σ' : L2.St} {H H' : Hp} {a : Addr} {u o : HO}
theorem Rel.lock (R : Rel C env σ H) {i : Nat} {d : Dv} (ei : env[i]? = some (.dat d)) (hi : (env.set i .non).all slotImm = true) (ha : H a = some o) (nm : ¬ MM C env σ a) : C.io = none ∧ Rel (C.lock a u) (env.set i .non) σ (upd H a u) := by
  have sl : ∀ (j : Nat) s, (env.set i Slot.non)[j]? = some s → slotImm s = true := fun j s q => List.all_eq_true.mp hi s (List.mem_of_getElem? q)
  have no : ∀ (j : Nat) (b : OK) xs, (env.set i Slot.non)[j]? ≠ some (b.slot xs) := fun j b xs q => by
    have := sl j _ q
    cases b <;> cases this
  have nio : C.io = none := by
    cases c : C.io with
    | none => rfl
    | some w =>
      obtain ⟨_, xs, q, _⟩ := R.iob w.1 w.2 c
      by_cases z : i = w.1
      · rw [z, q] at ei
        cases ei
      · exact (no w.1 (.lst true) xs (by rw [List.getElem?_set_ne z]; exact q)).elim
  refine ⟨nio, ?_⟩
  exact {
    len := by rw [List.length_set]; exact R.len
    dat := fun j x q => by
      have im := sl j _ q
      have q' : env[j]? = some (.dat x) := by
        by_cases z : i = j
        · subst z
          rw [List.getElem?_set_self (List.getElem?_eq_some_iff.mp ei).1] at q
          cases q
        · rw [List.getElem?_set_ne z] at q
          exact q
      obtain ⟨v, h1, h2⟩ := R.dat j x q'
      exact ⟨v, h1, imm_dat im h2⟩
    own := fun j b xs q => (no j b xs q).elim
    fit := fun j b xs q => (no j b xs q).elim
    inj := fun j k b c xs ys x q => (no j b xs q).elim
    io := fun j xs q => (no j (.lst true) xs q).elim
    iob := fun j x q => by cases q
    no := fun j b xs x _ q => (no j b xs q).elim
    keep := fun x w _ q => by
      simp only [DC.lock] at q
      split at q
      · rename_i z
        cases q
        rw [z, upd_same]
      · rename_i z
        rw [upd_ne z]
        exact R.keep x w (fun j z => by rw [nio] at z; cases z) q
    mem := fun x z => by
      by_cases c : x = a
      · rw [c, upd_same]
        exact fun z => by cases z
      · rw [upd_ne c]
        exact z.elim (R.mem x) fun z => (c z).elim
    prv := fun j x q => by
      have := sl j _ q
      cases this }
theorem Rel.unlock (nio : C.io = none) (R0 : Rel C env σ H) (ha : H a = some o) (R : Rel (C.lock a u) e σ' H') : Rel C e σ' (upd H' a o) where
  len := R.len
  dat := fun j x q => by
    obtain ⟨v, h1, h2⟩ := R.dat j x q
    exact ⟨v, h1, h2.to (fun y w n q => by rw [upd_ne (fun z => n (.inl (.inr z)))]; exact q) fun y z => .inl (z.imp .inl id)⟩
  own := fun j b xs q => by
    obtain ⟨y, vs, h1, h2, h3⟩ := R.own j b xs q
    have na : y ≠ a := fun z => by
      by_cases hb : b = .lst true
      · subst hb
        obtain ⟨_, w⟩ := R.io j xs q
        cases w
      · exact (R.no j b xs y hb q h1).2 (.inr z)
    exact ⟨y, vs, h1, by rw [upd_ne na]; exact h2, Dats.to (fun y w n q => by rw [upd_ne (fun z => n (.inl (.inr z)))]; exact q) (fun y z => .inl (z.imp .inl id)) _ _ h3⟩
  fit := R.fit
  inj := R.inj
  io := fun j xs q => by
    obtain ⟨_, w⟩ := R.io j xs q
    cases w
  iob := fun j x q => by rw [nio] at q; cases q
  no := fun j b xs y nb q h1 => by
    obtain ⟨h2, h3⟩ := R.no j b xs y nb q h1
    refine ⟨?_, fun z => h3 (.inl z)⟩
    simp only [DC.lock] at h2
    rw [if_neg (fun z => h3 (.inr z))] at h2
    exact h2
  keep := fun x w n q => by
    by_cases c : x = a
    · have := R0.keep x w n q
      rw [c] at this ⊢
      rw [upd_same, ← this, ha]
    · rw [upd_ne c]
      exact R.keep x w (fun j z => by cases z) (by simp only [DC.lock]; rw [if_neg c]; exact q)
  mem := fun x z => by
    by_cases c : x = a
    · rw [c, upd_same]
      exact fun z => by cases z
    · rw [upd_ne c]
      exact R.mem x (.inl z)
  prv := fun j x q => by
    obtain ⟨v, h1, h2⟩ := R.prv j x q
    exact ⟨v, h1, PD.to (fun y w n q => by rw [upd_ne (fun z => n ⟨.inl (.inr z), id⟩)]; exact q) (fun y z => .inl ⟨z.1.imp .inl id, id⟩) (fun _ z => z.elim) _ _ h2⟩
theorem zipD_get {M : Addr → Prop} {H : Hp} {ks : List Key} {ds : List Dv} {vs : List V} (hl : ks.length = ds.length) (hs : Dats M H ds vs) {i : Nat} (hi : i < (ks.zip vs).length) {x y : V} (hx : (ks.zip vs)[i]?.map (fun kv => kV kv.1) = some x) (hy : (ks.zip vs)[i]?.map Prod.snd = some y) : ∃ k d, (pairsD ks ds)[i]? = some (.tup [kD k, d]) ∧ d ∈ ds ∧ x = kV k ∧ Dat M H d y := by
  have hv := hs.length
  rw [List.length_zip] at hi
  have h1 : i < ks.length := by omega
  have h2 : i < ds.length := by omega
  have h3 : i < vs.length := by omega
  obtain ⟨v, q1, q2⟩ := hs.get (List.getElem?_eq_getElem h2)
  have e : (ks.zip vs)[i]? = some (ks[i], v) := by
    rw [List.getElem?_zip_eq_some]
    exact ⟨List.getElem?_eq_getElem h1, q1⟩
  rw [e] at hx hy
  refine ⟨ks[i], ds[i], ?_, List.getElem_mem h2, (Option.some.inj hx).symm, by rw [← Option.some.inj hy]; exact q2⟩
  unfold pairsD
  rw [List.getElem?_map, List.getElem?_zip_eq_some (z := (ks[i], ds[i])) |>.mpr ⟨List.getElem?_eq_getElem h1, List.getElem?_eq_getElem h2⟩]
  rfl
end
theorem rs_items {i : Nat} {tg : TG} {ts : List Nat} {gf : GF} {tb : TS} {gb : SF} (hg : RG tg ts gf) (hb : RS tb gb) : RS (tLock (tFor (iItems (tVar i)) tg tb)) (sItems i gf gb) := fun C env σ H D o h R k => by
  unfold sItems at h
  split at h
  case h_2 => cases h
  rename_i ks ds he
  split at h
  case isFalse => cases h
  rename_i hc
  obtain ⟨hc1, hc2⟩ := Bool.and_eq_true_iff.mp hc
  obtain ⟨v, hv, dv⟩ := R.dat i _ he
  unfold Dat at dv
  obtain ⟨a, vs, rfl, na, ha, hl, hs⟩ := dv
  refine ⟨a, _, ha, trivial, fun od => ?_⟩
  obtain ⟨nio, RL⟩ := R.lock (u := .frz od (.dK (ks.zip vs))) he hc1 ha na
  refine ⟨_, hv, a, od, _, rfl, upd_same, ?_⟩
  have at1 : ∀ {ei σ' H'}, Rel (C.lock a (.frz od (.dK (ks.zip vs)))) ei σ' H' → H' a = some (.frz od (.dK (ks.zip vs))) := fun Ri => Ri.keep a _ (fun _ z => by cases z) (if_pos rfl)
  have hlen : (ks.zip vs).length = (pairsD ks ds).length := by
    unfold pairsD
    rw [List.length_map, List.length_zip, List.length_zip, hs.length]
  refine for_it walk_items (fun n σ' H' => ∃ ei, loopF gf gb ((pairsD ks ds).drop n) ei = some o ∧ Rel (C.lock a (.frz od (.dK (ks.zip vs)))) ei σ' H') ⟨_, h, RL⟩ (fun n σ' H' _ ⟨ei, _, Ri⟩ => at1 Ri) (fun n x σ' H2 H3 hn ⟨ei, hlp, Ri⟩ y => ?_) fun σ' H' ⟨ei, hlp, Ri⟩ => ?_
  · obtain ⟨T, x1, y1, rfl, nT, rfl, hx, hy⟩ := y
    obtain ⟨key, d, q1, q2, rfl, q3⟩ := zipD_get hl hs hn hx hy
    have hn' : n < (pairsD ks ds).length := hlen ▸ hn
    have hd : (pairsD ks ds).drop n = (.tup [kD key, d]) :: (pairsD ks ds).drop (n + 1) := by
      rw [List.drop_eq_getElem_cons hn']
      rw [List.getElem?_eq_getElem hn'] at q1
      rw [Option.some.inj q1]
    rw [hd] at hlp
    unfold loopF at hlp
    obtain ⟨e2, h2, hlp⟩ := Option.bind_eq_some_iff.mp hlp
    obtain ⟨o2, h3, hlp⟩ := Option.bind_eq_some_iff.mp hlp
    have dx : Dat (MM (C.lock a (.frz od (.dK (ks.zip vs)))) ei σ') (upd H2 T (.tup [kV key, y1])) (.tup [kD key, d]) (.ref T) := by
      unfold Dat
      exact ⟨T, _, rfl, Ri.fresh nT, upd_same, .cons (kD_dat key) (.one (imm_dat (List.all_eq_true.mp hc2 d q2) q3))⟩
    refine hg _ ei σ' _ _ _ _ e2 h2 (Ri.alloc nT) dx fun σ2 R2 _ _ _ _ => ?_
    refine hb _ e2 σ2 _ _ o2 h3 R2 ?_
    cases o2 with
    | nx e3 => exact fun σ4 H4 R4 => ⟨e3, hlp, R4⟩
    | ct e3 => exact fun σ4 H4 R4 => ⟨e3, hlp, R4⟩
    | bk e3 =>
      cases hlp
      exact fun σ4 H4 R4 => ⟨at1 R4, k σ4 _ (Rel.unlock nio R ha R4)⟩
    | rt d e3 =>
      cases hlp
      exact fun σ4 H4 v R4 dv => ⟨at1 R4, k σ4 _ v (Rel.unlock nio R ha R4) (dv.to (fun y w n q => by rw [upd_ne (fun z => n (.inl (.inr z)))]; exact q) fun y z => .inl (z.imp .inl id))⟩
  · rw [List.drop_of_length_le (by omega)] at hlp
    cases hlp
    exact ⟨at1 Ri, k σ' _ (Rel.unlock nio R ha Ri)⟩
/-- for c in text -/
def fStrIt (fa : EF) : IF := fun env => (fa env).bind fun p => (asS p.2 p.1).map fun s => (chars s, p.2)
theorem dats_charsT {M : Addr → Prop} {H : Hp} : ∀ l : List Nat, Dats M H (l.map fun c => Dv.str ⟨#[c]⟩) (l.map fun c => V.str ⟨#[c]⟩)
  | [] => .nil
  | c :: l => .cons (by unfold Dat; rfl) (dats_charsT l)
theorem ri_str {ta : TE} {fa : EF} (ha : RE ta fa) : RI (iStr ta) (fStrIt fa) := fun C env σ H R ds env' h Re k => by
  unfold fStrIt at h
  obtain ⟨⟨x, e1⟩, h1, h⟩ := Option.bind_eq_some_iff.mp h
  obtain ⟨s, h2, h⟩ := Option.map_eq_some_iff.mp h
  cases h
  refine ha C env σ H _ x e1 h1 Re fun v H1 R1 s1 g1 r1 => ?_
  obtain rfl := asS_ok R1 r1 h2
  refine ⟨s, rfl, k _ H1 R1 s1 g1 (itd_of (dats_charsT s.cps.toList) ?_)⟩
  have e : (s.cps.toList.map fun c => V.str ⟨#[c]⟩).length = s.cps.size := by rw [List.length_map, Array.length_toList]
  rw [e]
  refine walk_str.mono (fun _ _ => trivial) fun i H x H' hi hg y => ?_
  obtain ⟨rfl, c, hc, rfl⟩ := y
  refine ⟨rfl, ?_⟩
  rw [List.getElem?_map, Array.getElem?_toList, hc]
  rfl
@[simp] theorem e_strIt {fa : EF} {env : DEnv} : fStrIt fa env = (fa env).bind fun p => (asS p.2 p.1).map fun s => (chars s, p.2) := rfl
@[simp] theorem e_dget2 {fd fk fx : EF} {env : DEnv} : fDGet2 fd fk fx env = (fd env).bind fun p => (frz p.2 p.1).bind fun q => match q.1 with
  | .dct ks ds => (fk q.2).bind fun r => (frz r.2 r.1).bind fun y => (keyOf y.1).bind fun k => (fx y.2).bind fun s => (frz s.2 s.1).map fun x => (.d ((dGet k ks ds).getD x.1), x.2)
  | _ => none := rfl
open Classical in
@[simp] theorem e_putD {i : Nat} {fk fv : EF} {env : DEnv} : sPutD i fk fv env = (fv env).bind fun p => (frz p.2 p.1).bind fun q => if isOwnD q.2[i]? = true then (fk q.2).bind fun r => (frz r.2 r.1).bind fun y => (keyOf y.1).bind fun k => match y.2[i]? with
  | some (.ownD ks ds) => if ks.length ≤ 1000 then some (.nx (y.2.set i (.ownD (if k ∈ ks then ks else ks ++ [k]) (if k ∈ ks then dPutL k q.1 ks ds else ds ++ [q.1])))) else none
  | _ => none else none := rfl
@[simp] theorem e_parDD {i j : Nat} {fa : EF} {env : DEnv} : sParDD i j fa env = (fa env).bind fun p => (frz p.2 p.1).bind fun x => if canSet x.2 j = true then (fName i x.1 (x.2.set j (.ownD [] []))).map Out.nx else none := rfl
@[simp] theorem e_items {i : Nat} {gf : GF} {gb : SF} {env : DEnv} : sItems i gf gb env = match env[i]? with
  | some (.dat (.dct ks ds)) => if ((env.set i .non).all slotImm && ds.all immB) = true then loopF gf gb (pairsD ks ds) (env.set i .non) else none
  | _ => none := rfl
end DL

set_option Elab.async false
set_option linter.all false
namespace DL
open PySem L2 PyProof.Rows
/-! ### dict(d) -/
def rDictK (K : PySem.W.Frag) : List V → Hp → VK → Prop := fun xs H Q => ∃ a kvs, xs = [.ref a] ∧ Rd H a (.dK kvs) ∧ ∀ p, H p = none → Q (.ref p) (upd H p (.dK kvs))
theorem call_dictK {X : Cx} : CallR X (Value.type "dict") (rDictK X.K) := by
  intro pins s σ H xs us Q I r q
  obtain ⟨a, kvs, rfl, e, q⟩ := q
  obtain ⟨u, rfl, rx⟩ := vals1 r
  cases rx
  obtain ⟨hl, hm, vs, kv, dd⟩ := dk_rd I.hok e
  refine kt_call_dict hm dd (by rw [← KV.length kv]; exact hl) fun h' dd' sb => ?_
  exact ⟨.ref s.heap.objs.size, upd H s.heap.objs.size (.dK kvs), I.laid (t' := s.toks) (fun b o e => (sb.2 b (Nat.ne_of_lt (Heap.lt_size e))).trans (Heap.get?_push_of_some _ e)) (Nat.le_refl _) ⟨hl, beq_eq_false_iff_ne.mpr (Nat.ne_of_gt (Inv.big I)), vs, kv, dd'⟩, rfl, q _ (I.hok.fresh (Nat.le_refl _))⟩
theorem rcP_dictsNe {prog : Program} {w : World} {A : Around} {s : Shared} {a b : Addr} {ka kb : List (Key × Value)} {r : Bool}
    (ha : (a == sysModules) = false) (hb : (b == sysModules) = false) (da : Heap.DictOf (mixKind prog w) s.heap a ka) (db : Heap.DictOf (mixKind prog w) s.heap b kb) (hu : A.units < cLine)
    (hits : ka.length = kb.length → W.KeqHitsP prog w A.in1 s kb ka r) (E Q : Value → Shared → Prop) (h : Q (.bool (!(ka.length == kb.length && r))) s) :
    wpAny (model prog w) A (richCompare .NotEq (.ref a) (.ref b)) Q E s := by
  refine wpAny_richCompare_same_room da.typeIs db.typeIs F.slot_dict_ne ?_ hu
  refine wpAny_call_entry F.slot_dict_ne da.typeIs F.entry_dict_ne ?_ (F.args_dict_ne_2 _ _)
  refine wpAny_bind ?_
  refine wpAny_bind ?_
  refine wpAny_notOrdered_dict da.typeIs ?_
  refine wpAny_pure ?_
  refine wpAny_bind ?_
  refine wpAny_isInstance db.typeIs F.sub_dict_dict ?_
  simp only [Bool.not_true, Bool.false_eq_true, if_false]
  refine wpAny_bind (wpAny_pure (wpAny_bind (wpAny_pure (wpAny_bind (W.samePairsP ha hb da db hits (wpAny_pure ⟨_, rfl, ⟨(fun x => nomatch x), ?_⟩⟩))))))
  have e : ∀ x : Bool, (x == false) = !x := by decide
  rw [e]
  exact h
/-- two dicts of texts -/
def eqKV (kvs lvs : List (Key × V)) : Bool := kvs.length == lvs.length && kvs.all fun kv => decide (valV lvs kv.1 = some kv.2)
def rNeK : R2 := fun x y H Q => ∃ a b kvs lvs, x = .ref a ∧ y = .ref b ∧ Rd H a (.dK kvs) ∧ Rd H b (.dK lvs) ∧ (∀ kv ∈ kvs, ∃ t, kv.2 = .str t) ∧ (∀ kv ∈ lvs, ∃ t, kv.2 = .str t) ∧ Q (.bl (!eqKV kvs lvs)) H
theorem valV_mem {lvs : List (Key × V)} {k : Key} {v : V} (h : valV lvs k = some v) : ∃ kv ∈ lvs, kv.2 = v := by
  unfold valV at h
  obtain ⟨kv, h1, h2⟩ := Option.map_eq_some_iff.mp h
  exact ⟨kv, List.mem_of_find?_eq_some h1, h2⟩
theorem hits_of {prog : Program} {w : World} {A : Around} {s : Shared} {lvs : List (Key × V)} {kb : List (Key × Value)} (hb : KV lvs kb) (hs : ∀ kv ∈ lvs, ∃ t, kv.2 = .str t) :
    ∀ {kvs : List (Key × V)} {ka : List (Key × Value)}, KV kvs ka → (∀ kv ∈ kvs, ∃ t, kv.2 = .str t) → W.KeqHitsP prog w A s kb ka (kvs.all fun kv => decide (valV lvs kv.1 = some kv.2))
  | [], ka, h, _ => by
    cases h
    exact .nil
  | kv :: kvs, ka, h, hk => by
    cases h with
    | cons h1 h2 =>
      rename_i q r
      obtain ⟨k, v⟩ := kv
      obtain ⟨k', u⟩ := q
      obtain ⟨rfl, rv⟩ := h1
      obtain ⟨t, et⟩ := hk _ List.mem_cons_self
      dsimp only at et rv
      subst et
      have ih := hits_of (prog := prog) (w := w) (A := A) (s := s) hb hs h2 fun x hx => hk x (List.mem_cons_of_mem _ hx)
      have rel := KV.val hb k
      rw [List.all_cons]
      dsimp only
      cases e : valV lvs k with
      | none =>
        rw [e] at rel
        have en : valueAt kb k = none := by
          cases c : valueAt kb k with
          | none => rfl
          | some z => rw [c] at rel; exact rel.elim
        have e0 : decide ((none : Option V) = some (V.str t)) = false := decide_eq_false (fun z => by cases z)
        rw [e0, Bool.false_and]
        exact .miss en
      | some y =>
        rw [e] at rel
        obtain ⟨x, hx, ex⟩ := valV_mem e
        obtain ⟨t2, et2⟩ := hs x hx
        rw [et2] at ex
        subst ex
        cases c : valueAt kb k with
        | none => rw [c] at rel; exact rel.elim
        | some z =>
          rw [c] at rel
          obtain ⟨tk, rfl⟩ : ∃ tk, z = Value.str t2 tk := rel
          obtain ⟨tk2, rfl⟩ : ∃ tk, u = Value.str t tk := rv
          have e0 : decide (some (V.str t2) = some (V.str t)) = decide (t = t2) := by
            by_cases q : t = t2
            · subst q
              simp
            · rw [decide_eq_false q, decide_eq_false]
              intro z
              cases z
              exact q rfl
          rw [e0]
          exact .hit c (fun E Q h => wpAny_eqBool_str h) ih
theorem op_neK {X : Cx} (hu : X.A.units + 64 < cLine) : OpR X (compareOp .NotEq) rNeK := by
  intro pins s σ H x y v u Q I rx ry q
  obtain ⟨a, b, kvs, lvs, rfl, rfl, e1, e2, h1, h2, q⟩ := q
  cases rx
  cases ry
  obtain ⟨hl, hm, vs, kv, dd⟩ := dk_rd I.hok e1
  obtain ⟨hl2, hm2, vs2, kv2, dd2⟩ := dk_rd I.hok e2
  refine rcP_dictsNe hm hm2 dd dd2 (by omega) (fun _ => hits_of kv2 h2 kv h1) _ _ ?_
  refine ⟨_, H, I, ?_, q⟩
  unfold eqKV
  rw [← KV.length kv, ← KV.length kv2]
  rfl
/-! ### dicts read, copied, asked -/
section
variable {C : DC} {env : DEnv} {σ : L2.St} {H : Hp} {v : V} {rv : RV}
/-- the dict that it reads as -/
def dctL (env : DEnv) : RV → Option (List Key × List Dv)
  | .d (.dct ks ds) => some (ks, ds)
  | .d _ => none
  | .v i => match env[i]? with
    | some (.dat (.dct ks ds)) => some (ks, ds)
    | some (.ownD ks ds) => some (ks, ds)
    | _ => none
theorem dctL_ok (R : Rel C env σ H) (r : RVr C env σ H rv v) {ks : List Key} {ds : List Dv} (h : dctL env rv = some (ks, ds)) : ∃ a vs, v = .ref a ∧ H a = some (.dK (ks.zip vs)) ∧ ks.length = ds.length ∧ Dats (MM C env σ) H ds vs := by
  cases rv with
  | d x =>
    cases x <;> simp only [dctL, Option.some.injEq, Prod.mk.injEq, reduceCtorEq] at h
    obtain ⟨rfl, rfl⟩ := h
    have r : Dat (MM C env σ) H (.dct _ _) v := r
    unfold Dat at r
    obtain ⟨a, vs, rfl, _, h1, h2, h3⟩ := r
    exact ⟨a, vs, rfl, h1, h2, h3⟩
  | v i =>
    have r : σ[i]? = some (some v) := r
    simp only [dctL] at h
    split at h
    · rename_i e
      cases h
      obtain ⟨u, h1, h2⟩ := R.dat i _ e
      rw [h1] at r
      cases r
      unfold Dat at h2
      obtain ⟨a, vs, rfl, _, h1, h2, h3⟩ := h2
      exact ⟨a, vs, rfl, h1, h2, h3⟩
    · rename_i e
      cases h
      obtain ⟨a, vs, h1, h2, h3⟩ := R.own i (.dct ks) ds e
      rw [h1] at r
      cases r
      exact ⟨a, vs, rfl, h2, R.fit i (.dct ks) ds e, h3⟩
    · cases h
end
/-- d[k] -/
def fDGet (fd fk : EF) : EF := fun env => (fd env).bind fun p => (fk p.2).bind fun q => (dctL q.2 p.1).bind fun w => (val q.2 q.1).bind fun y => (keyOf y).bind fun k => (dGet k w.1 w.2).map fun z => (.d z, q.2)
theorem re_dget {td ty : TE} {fd fk : EF} (hd : RE td fd) (hk : RE ty fk) : RE (tDGet td ty) (fDGet fd fk) := fun C env σ H Q rv env' h R k => by
  unfold fDGet at h
  obtain ⟨⟨x, e1⟩, h1, h⟩ := Option.bind_eq_some_iff.mp h
  obtain ⟨⟨y, e2⟩, h2, h⟩ := Option.bind_eq_some_iff.mp h
  obtain ⟨⟨ks, ds⟩, h3, h⟩ := Option.bind_eq_some_iff.mp h
  obtain ⟨dy, h4, h⟩ := Option.bind_eq_some_iff.mp h
  obtain ⟨key, h5, h⟩ := Option.bind_eq_some_iff.mp h
  obtain ⟨z, h6, h⟩ := Option.map_eq_some_iff.mp h
  cases h
  refine hd C env σ H _ x e1 h1 R fun v H1 R1 s1 g1 r1 => ?_
  refine hk C e1 σ H1 _ y _ h2 R1 fun w H2 R2 s2 g2 r2 => ?_
  obtain ⟨a, vs, rfl, ha, hl, hs⟩ := dctL_ok R2 (r1.step s2 g2) h3
  obtain rfl := keyOf_ok h5 (val_ok R2 r2 h4)
  rcases dGet_ok (k := key) hl hs with ⟨q1, _⟩ | ⟨e, u, q1, q2, q3⟩
  · rw [q1] at h6
    cases h6
  · rw [q1] at h6
    cases h6
    exact ⟨a, u, rfl, .inl ⟨_, key, .inl ha, rfl, q2.symm⟩, k u H2 R2 (s1.trans s2) (g1.trans s1 g2) q3⟩
/-- k in d -/
def fDIn (fk fd : EF) : EF := fun env => (fk env).bind fun p => (fd p.2).bind fun q => (dctL q.2 q.1).bind fun w => (val q.2 p.1).bind fun y => (keyOf y).map fun k => (.d (.bl (dGet k w.1 w.2).isSome), q.2)
theorem re_din {td ty : TE} {fd fk : EF} (hk : RE ty fk) (hd : RE td fd) : RE (tDIn ty td) (fDIn fk fd) := fun C env σ H Q rv env' h R k => by
  unfold fDIn at h
  obtain ⟨⟨y, e1⟩, h1, h⟩ := Option.bind_eq_some_iff.mp h
  obtain ⟨⟨x, e2⟩, h2, h⟩ := Option.bind_eq_some_iff.mp h
  obtain ⟨⟨ks, ds⟩, h3, h⟩ := Option.bind_eq_some_iff.mp h
  obtain ⟨dy, h4, h⟩ := Option.bind_eq_some_iff.mp h
  obtain ⟨key, h5, h⟩ := Option.map_eq_some_iff.mp h
  cases h
  refine hk C env σ H _ y e1 h1 R fun w H1 R1 s1 g1 r1 => ?_
  refine hd C e1 σ H1 _ x _ h2 R1 fun v H2 R2 s2 g2 r2 => ?_
  obtain ⟨a, vs, rfl, ha, hl, hs⟩ := dctL_ok R2 r2 h3
  obtain rfl := keyOf_ok h5 (val_ok R2 (r1.step s2 g2) h4)
  have fin : ∀ b : Bool, b = (dGet key ks ds).isSome → Q (.bl b) H2 := fun b e => k _ H2 R2 (s1.trans s2) (g1.trans s1 g2) (by rw [← e]; show Dat (MM C e2 σ) H2 (.bl b) (.bl b); unfold Dat; rfl)
  rcases dGet_ok (k := key) hl hs with ⟨q1, q2⟩ | ⟨e, u, q1, q2, q3⟩
  · exact ⟨a, none, rfl, .inl ⟨_, key, .inl ha, rfl, q2.symm⟩, fin _ (by rw [q1]; rfl)⟩
  · exact ⟨a, some u, rfl, .inl ⟨_, key, .inl ha, rfl, q2.symm⟩, fin _ (by rw [q1]; rfl)⟩
/-- d != e, of texts -/
def strB : Dv → Bool
  | .str _ => true
  | _ => false
def eqD (ks : List Key) (ds : List Dv) (ls : List Key) (es : List Dv) : Bool := ks.length == ls.length && (ks.zip ds).all fun p => match dGet p.1 ls es, p.2 with
  | some (.str a), .str b => a == b
  | _, _ => false
def gNeK (env : DEnv) (x y : RV) : Option RV := (dctL env x).bind fun p => (dctL env y).bind fun q => if p.2.all strB = true ∧ q.2.all strB = true then some (.d (.bl (!eqD p.1 p.2 q.1 q.2))) else none
theorem strs_of {M : Addr → Prop} {H : Hp} : ∀ {ks : List Key} {ds : List Dv} {vs : List V}, ds.all strB = true → Dats M H ds vs → ∀ kv ∈ ks.zip vs, ∃ t, kv.2 = .str t
  | [], _, _, _, _, _, hk => by cases hk
  | k :: ks, [], vs, _, h, kv, hk => by
    unfold Dats at h
    subst h
    cases hk
  | k :: ks, d :: ds, vs, hb, h, kv, hk => by
    unfold Dats at h
    obtain ⟨v, r, rfl, h1, h2⟩ := h
    rw [List.all_cons, Bool.and_eq_true] at hb
    rcases List.mem_cons.mp hk with rfl | hk
    · cases d <;> simp only [strB, Bool.false_eq_true, false_and, true_and] at hb
      unfold Dat at h1
      exact ⟨_, h1⟩
    · exact strs_of hb.2 h2 kv hk
theorem eqD_ok {M : Addr → Prop} {H : Hp} {ls : List Key} {es : List Dv} {ws : List V} (hl : ls.length = es.length) (hw : Dats M H es ws) (hb : es.all strB = true) : ∀ {ks : List Key} {ds : List Dv} {vs : List V}, ks.length = ds.length → ds.all strB = true → Dats M H ds vs →
    ((ks.zip vs).all fun kv => decide (valV (ls.zip ws) kv.1 = some kv.2)) = (ks.zip ds).all fun p => match dGet p.1 ls es, p.2 with
      | some (.str a), .str b => a == b
      | _, _ => false
  | [], ds, vs, _, _, _ => by simp
  | k :: ks, [], vs, h, _, _ => by cases h
  | k :: ks, d :: ds, vs, h, hd, hs => by
    unfold Dats at hs
    obtain ⟨v, r, rfl, h1, h2⟩ := hs
    rw [List.all_cons, Bool.and_eq_true] at hd
    rw [List.zip_cons_cons, List.zip_cons_cons, List.all_cons, List.all_cons, eqD_ok hl hw hb (by simpa using h) hd.2 h2]
    congr 1
    cases d <;> simp only [strB, Bool.false_eq_true, false_and, true_and] at hd
    rename_i t
    unfold Dat at h1
    subst h1
    dsimp only
    rcases dGet_ok (k := k) hl hw with ⟨q1, q2⟩ | ⟨e, u, q1, q2, q3⟩
    · rw [q1, q2]
      simp
    · rw [q1, q2]
      have es' : strB e = true := by
        have : ∀ {ls : List Key} {es : List Dv}, dGet k ls es = some e → e ∈ es := by
          intro ls
          induction ls with
          | nil => intro es h; cases es <;> cases h
          | cons l ls ih =>
            intro es h
            cases es with
            | nil => cases h
            | cons x es =>
              unfold dGet at h
              split at h
              · cases h
                exact List.mem_cons_self
              · exact List.mem_cons_of_mem _ (ih h)
        exact List.all_eq_true.mp hb e (this q1)
      cases e <;> simp only [strB, Bool.false_eq_true] at es'
      rename_i t2
      unfold Dat at q3
      subst q3
      dsimp only
      rw [Bool.eq_iff_iff]
      simp
theorem rb_neK : RB rNeK gNeK := fun C env σ H Q x y vx vy z h R rx ry k => by
  unfold gNeK at h
  obtain ⟨⟨ks, ds⟩, h1, h⟩ := Option.bind_eq_some_iff.mp h
  obtain ⟨⟨ls, es⟩, h2, h⟩ := Option.bind_eq_some_iff.mp h
  split at h
  case isFalse => cases h
  rename_i hb
  cases h
  obtain ⟨a, vs, rfl, ha, hl, hs⟩ := dctL_ok R rx h1
  obtain ⟨b, ws, rfl, hb', hl2, ht⟩ := dctL_ok R ry h2
  refine ⟨a, b, _, _, rfl, rfl, .inl ha, .inl hb', strs_of hb.1 hs, strs_of hb.2 ht, ?_⟩
  have e : eqKV (ks.zip vs) (ls.zip ws) = eqD ks ds ls es := by
    unfold eqKV eqD
    rw [eqD_ok hl2 ht hb.2 hl hb.1 hs, List.length_zip, List.length_zip, hs.length, ht.length, ← hl, ← hl2, Nat.min_self, Nat.min_self]
  rw [e]
  exact fin_bl R k
/-! ### new dicts -/
abbrev KF := DEnv → Option ((List Key × List Dv) × DEnv)
def RK (t : TE) (f : KF) : Prop := ∀ (C : DC) (env : DEnv) (σ : L2.St) (H : Hp) (Q : VK) (ks : List Key) (xs : List Dv) (env' : DEnv), f env = some ((ks, xs), env') → Rel C env σ H →
  (∀ p vs H', (∀ d v, Dat (MM C env σ) H d v → Dat (MM (C.plus p) env' σ) H' d v) → C.H0 p = none → ¬ C.M0 p → Rel (C.plus p) env' σ H' → Sh env env' → Grow env σ H H' → H' p = some (.dK (ks.zip vs)) → ks.length = xs.length → Dats (MM (C.plus p) env' σ) H' xs vs → Q (.ref p) H') → t σ H Q
def kNew : KF := fun env => some (([], []), env)
def kCopy (fa : EF) : KF := fun env => (fa env).bind fun p => (dctL p.2 p.1).map fun w => (w, p.2)
theorem rk_new : RK tDNewK kNew := fun C env σ H Q ks xs env' h R k => by
  cases h
  exact fun p np => k p [] _ (fun d v q => (dat_plus (Sh.refl _) (Grow.refl _ _ _) np q).to (fun a u _ q => by rw [upd_ne (ne_of_none q np)]; exact q) fun _ z => .inl z) (R.h0 np) (fun z => R.mem p z np) (R.plus np _) (Sh.refl _) (Grow.new np) upd_same rfl .nil
theorem rk_copy {K : PySem.W.Frag} {ta : TE} {fa : EF} (ha : RE ta fa) : RK (tCB (rDictK K) (tCons ta tNil)) (kCopy fa) := fun C env σ H Q ks xs env' h R k => by
  unfold kCopy at h
  obtain ⟨⟨x, e1⟩, h1, h⟩ := Option.bind_eq_some_iff.mp h
  obtain ⟨⟨ks', ds'⟩, h2, h⟩ := Option.map_eq_some_iff.mp h
  cases h
  refine ha C env σ H _ x _ h1 R fun v H1 R1 s1 g1 r1 => ?_
  obtain ⟨a, vs, rfl, hha, hl, hs⟩ := dctL_ok R1 r1 h2
  refine ⟨a, _, rfl, .inl hha, fun p np => ?_⟩
  refine k p vs _ (fun d v q => (dat_plus s1 g1 np q).to (fun a u _ q => by rw [upd_ne (ne_of_none q np)]; exact q) fun _ z => .inl z) (R1.h0 np) (fun z => R1.mem p z np) (R1.plus np _) s1 (g1.trans s1 (Grow.new np)) upd_same hl ?_
  exact Dats.to (fun a u _ q => by rw [upd_ne (ne_of_none q np)]; exact q) (fun a z => by
    rcases z with (z | z) | z
    · exact .inl (.inl z)
    · exact .inr (z ▸ np)
    · exact .inl (.inr z)) _ _ hs
/-- as data -/
def fOfK (f : KF) : EF := fun env => (f env).map fun p => (.d (.dct p.1.1 p.1.2), p.2)
theorem re_ofK {t : TE} {f : KF} (h : RK t f) : RE t (fOfK f) := fun C env σ H Q rv env' e R k => by
  unfold fOfK at e
  obtain ⟨⟨⟨ks, xs⟩, e1⟩, h1, e⟩ := Option.map_eq_some_iff.mp e
  cases e
  refine h C env σ H Q ks xs _ h1 R fun p vs H' _ h0 hm Rp s g hp hl hs => ?_
  have R' := Rp.unplus R.hio
  refine k _ H' R' s g ?_
  show Dat (MM C e1 σ) H' (.dct ks xs) _
  unfold Dat
  exact ⟨p, vs, rfl, fun z => z.elim hm (Rp.notW hm R.hio), hp, hl, Dats.to (fun _ _ _ q => q) (fun a z => .inl (mm_plus z)) _ _ hs⟩
/-- x = a new dict -/
def sOwnK (i : Nat) (f : KF) : SF := fun env => (f env).bind fun p => if canSet p.2 i = true then some (.nx (p.2.set i (.ownD p.1.1 p.1.2))) else none
theorem rs_ownK {te : TE} {f : KF} {i : Nat} (he : RK te f) : RS (tAsg te (gName i)) (sOwnK i f) := fun C env σ H D o h R k => by
  unfold sOwnK at h
  obtain ⟨⟨⟨ks, xs⟩, e1⟩, h1, h⟩ := Option.bind_eq_some_iff.mp h
  split at h
  · rename_i hc
    cases h
    obtain ⟨s, e, ns⟩ := canSet_ok hc
    refine he C env σ H _ ks xs e1 h1 R fun p vs H' _ h0 hm Rp s1 g1 hp hl hs => ?_
    exact k _ H' (Rp.ownSetG R.hio h0 hm e ns (kk := .dct ks) (by intro z; cases z) hl hp hs).1
  · cases h
/-- a, b = a new dict, e -/
def sParKD (i j : Nat) (fa : KF) (fb : EF) : SF := fun env => (fa env).bind fun p => (fb p.2).bind fun q => (frz q.2 q.1).bind fun y => if canSet y.2 i = true then (fName j y.1 (y.2.set i (.ownD p.1.1 p.1.2))).map Out.nx else none
theorem rs_parKD {i j : Nat} {ta tb : TE} {fa : KF} {fb : EF} (ha : RK ta fa) (hb : RE tb fb) : RS (tPar i j (tCons ta (tCons tb tNil))) (sParKD i j fa fb) := fun C env σ H D o h R k => by
  unfold sParKD at h
  obtain ⟨⟨⟨ks, xs⟩, e1⟩, h1, h⟩ := Option.bind_eq_some_iff.mp h
  obtain ⟨⟨y, e2⟩, h2, h⟩ := Option.bind_eq_some_iff.mp h
  obtain ⟨⟨dy, e3⟩, h3, h⟩ := Option.bind_eq_some_iff.mp h
  split at h
  case isFalse => cases h
  rename_i hc
  obtain ⟨e4, h4, h⟩ := Option.map_eq_some_iff.mp h
  cases h
  obtain ⟨s, es, ns⟩ := canSet_ok hc
  refine ha C env σ H _ ks xs e1 h1 R fun p vs H1 _ h0 hm Rp s1 g1 hp hl hs => ?_
  refine hb (C.plus p) e1 σ H1 _ y e2 h2 Rp fun w H2 R2 s2 g2 r2 => ?_
  obtain ⟨R3, s3, d3⟩ := frz_ok R2 r2 h3
  have hp2 : H2 p = some (.dK (ks.zip vs)) := g2 p _ (Rp.notW hm R.hio) hp
  have hs2 := (Grow.refl _ _ H2).dats s3 (g2.dats s2 hs)
  obtain ⟨R4, m4⟩ := R3.ownSetG R.hio h0 hm es ns (kk := .dct ks) (by intro z; cases z) hl hp2 hs2
  refine ⟨_, w, rfl, ?_⟩
  exact rg_name C _ _ H2 dy w _ e4 h4 R4 (d3.to (fun _ _ _ q => q) fun a z => .inl (m4 a z)) fun σ6 R6 _ _ _ _ => k σ6 H2 R6
/-! ### a new list by + -/
def lAdd (fa fb : EF) : LF := fun env => (fa env).bind fun p => (fb p.2).bind fun q => (seqL q.2 p.1).bind fun xs => (seqL q.2 q.1).bind fun ys => if xs.length + ys.length ≤ szL then some (xs ++ ys, q.2) else none
theorem rl_add {K : PySem.W.Frag} {ta tb : TE} {fa fb : EF} (ha : RE ta fa) (hb : RE tb fb) : RL (tOp (rAddU K) ta tb) (lAdd fa fb) := fun C env σ H Q xs env' h R k => by
  unfold lAdd at h
  obtain ⟨⟨x, e1⟩, h1, h⟩ := Option.bind_eq_some_iff.mp h
  obtain ⟨⟨y, e2⟩, h2, h⟩ := Option.bind_eq_some_iff.mp h
  obtain ⟨as, h3, h⟩ := Option.bind_eq_some_iff.mp h
  obtain ⟨bs, h4, h⟩ := Option.bind_eq_some_iff.mp h
  split at h
  case isFalse => cases h
  rename_i hz
  cases h
  refine ha C env σ H _ x e1 h1 R fun v H1 R1 s1 g1 r1 => ?_
  refine hb C e1 σ H1 _ y _ h2 R1 fun w H2 R2 s2 g2 r2 => ?_
  obtain ⟨a, vs, rfl, ha', hs⟩ := seqL_ok R2 (r1.step s2 g2) h3
  obtain ⟨b, ws, rfl, hb', ht⟩ := seqL_ok R2 r2 h4
  refine .inr (.inr (.inr (.inl ⟨a, b, vs, ws, rfl, rfl, ha', hb', by rw [hs.length, ht.length]; exact szL_le hz, fun p np => ?_⟩)))
  have st := s1.trans s2
  have gr := g1.trans s1 g2
  refine k p _ _ (fun d v q => (dat_plus st gr np q).to (fun a u _ q => by rw [upd_ne (ne_of_none q np)]; exact q) fun _ z => .inl z) (R2.h0 np) (fun z => R2.mem p z np) (R2.plus np _) st (gr.trans st (Grow.new np)) upd_same ?_
  exact Dats.to (fun a u _ q => by rw [upd_ne (ne_of_none q np)]; exact q) (fun a z => by
    rcases z with (z | z) | z
    · exact .inl (.inl z)
    · exact .inr (z ▸ np)
    · exact .inl (.inr z)) _ _ (hs.app ht)
end DL
namespace DG
open PySem L2 PySem.Spec PyProof.Rows
section
variable {X : Cx} {CT : CXT} {k : Nat} {f C : Addr} {fd : FuncData} {ps : List Str} {sp : Sp} {E : XK}
/-- == of an instance and a list, by the class's own -/
def rEqL (C : Addr) (sp : Sp) (E : XK) : R2 := fun x y H Q => ∃ a b dx fs zs, x = .ref a ∧ y = .ref b ∧ H a = some (.ins C dx fs) ∧ H b = some (.lst zs) ∧ sp [x, y] H (fun v H' => (∃ r, v = .bl r) ∧ Q v H') E
theorem list_first (K : PySem.W.Frag) (C : Addr) : PySem.W.notFirst K C (.type "list") = true := by
  have : PySem.W.subIn K (.type "list") (.ref C) = some false := by
    obtain ⟨a, h1, h2⟩ : ∃ a, fastBuiltinMro "list" = some a ∧ ∀ C : Addr, ¬Value.ref C ∈ a := ⟨_, rfl, by simp⟩
    simp only [PySem.W.subIn, h1, Option.map_some, Option.some.injEq]
    rw [List.contains_eq_mem]
    exact decide_eq_false (h2 C)
  unfold PySem.W.notFirst
  rw [this]
  simp
theorem op_eqL (F : FnG X.prog X.w X.K X.mg X.base CT k f fd ps sp) (g : X.A.guards = some []) (hr : Room k X.A)
    (hs : PySem.W.findIn X.K (.ref C) "__eq__" = some (some (.ref f))) (hf : PySem.W.isFn X.K (.ref f) = true) (hb : Binds X.K fd ps []) (hx : Passes CT X E) : OpR X (compareOp .Eq) (rEqL C sp E) := by
  intro pins s σ H x y v u Q I rx ry hq
  obtain ⟨a, b, dx, fs, zs, rfl, rfl, ha, hb', hsp⟩ := hq
  cases rx
  cases ry
  show wpAny (model X.prog X.w) X.A (richCompare .Eq (.ref a) (.ref b)) (EP X pins σ Q) X.xe s
  obtain ⟨mA, J, _⟩ := ins_get I.hok ha
  obtain ⟨od, J, _⟩ := J.look
  obtain ⟨its, _, ⟨o, n, h1, h2, _, _⟩, _⟩ := I.list (SqL.of hb')
  obtain ⟨m, hF⟩ := I.fr
  refine PySem.W.cmp_K (op := .Eq) (tb := .type "list") hr.units0 hF I.ok.mod.kin J (fun A' Q' E' s' keep h => wpAny_typeOf (show s'.TypeIs (.ref b) "list" from ⟨o, keep _ _ h1, h2⟩) h) (list_first _ _) hs hf ?_
  have hl := F.len _ _ _ _ hsp
  have r2 : Vals [V.ref a, V.ref b] [Value.ref a, Value.ref b] := .cons rfl (.cons rfl .nil)
  refine wpAny_call (codeAny_mono (F.run X.A X.stack s H ⟨[.ref a, .ref b], []⟩ [.ref a, .ref b] [.ref a, .ref b] _ E g hr I.env0 (by
    have := hb s [.ref a, .ref b] I.kIn (by simpa using hl)
    simpa using this) r2 hsp) fun r s' hq => ?_)
  cases r with
  | error e => exact hx pins σ H s e s' I hq
  | ok fl =>
    cases fl with
    | ret w =>
      obtain ⟨z, H', I', rz, ⟨r, ez⟩, q⟩ := I.after hq
      subst ez
      cases rz
      exact ⟨.bl r, H', I', rfl, q⟩
    | next => exact False.elim hq
    | brk => exact False.elim hq
    | cont => exact False.elim hq
end
end DG
namespace DL
open PySem L2 PyProof.Rows
section
variable {K : PySem.W.Frag} {C : Addr} {ns : List Str} {E : XK} {ta : TE} {fa : EF}
def fEqL (C : Addr) (ns : List Str) (F : FnF) (fa fb : EF) : EF := fun env => (fa env).bind fun p => (fb p.2).bind fun q => (val q.2 p.1).bind fun x => (val q.2 q.1).bind fun y => match x, y with
  | .ins C1 n1 d1, .lst d2 => if C1 = C ∧ n1 = ns then (F [.dat (.ins C1 n1 d1), .dat (.lst d2)]).bind fun z => match z.1 with
    | .bl b => some (.d (.bl b), q.2)
    | _ => none
    else none
  | _, _ => none
theorem re_eqL {F : FnF} {tb : TE} {fb : EF} (ha : RE ta fa) (hb : RE tb fb) : RE (tOp (DG.rEqL C (spD 2 F) E) ta tb) (fEqL C ns F fa fb) := fun C0 env σ H Q rv env' h R k => by
  unfold fEqL at h
  obtain ⟨⟨x, e1⟩, h1, k1⟩ := Option.bind_eq_some_iff.mp h
  obtain ⟨⟨y, e2⟩, h2, k2⟩ := Option.bind_eq_some_iff.mp k1
  obtain ⟨dx, h3, k3⟩ := Option.bind_eq_some_iff.mp k2
  obtain ⟨dy, h4, k4⟩ := Option.bind_eq_some_iff.mp k3
  clear h k1 k2 k3
  cases dx <;> try (cases k4; done)
  rename_i C1 n1 d1
  cases dy <;> try (cases k4; done)
  rename_i d2
  simp only at k4
  split at k4
  case isFalse => cases k4
  rename_i hc
  obtain ⟨rfl, rfl⟩ := hc
  obtain ⟨⟨z, ys⟩, h5, k5⟩ := Option.bind_eq_some_iff.mp k4
  clear k4
  cases z <;> try (cases k5; done)
  rename_i b
  cases k5
  refine ha C0 env σ H _ x e1 h1 R fun vx H1 R1 s1 g1 r1 => ?_
  refine hb C0 e1 σ H1 _ y _ h2 R1 fun vy H2 R2 s2 g2 r2 => ?_
  have dx := val_ok R2 (r1.step s2 g2) h3
  have dy := val_ok R2 r2 h4
  have dd := Dats.cons dx (.one dy)
  have dx' := dx
  have dy' := dy
  unfold Dat at dx' dy'
  obtain ⟨a, da, va, rfl, na, ea, _, _⟩ := dx'
  obtain ⟨b', vb, rfl, nb, eb, _⟩ := dy'
  refine ⟨a, b', da, _, _, rfl, rfl, ea, eb, MM C0 env' σ, none, [Dv.ins _ _ d1, Dv.lst d2].map .dat, .bl b, ys, h5, rfl, ⟨rfl, fun i d q => ?_, fun i c xs q => ?_, fun i a q => (by cases q), fun a q => R2.memM a q, nop_map⟩, fun v H' keep hr _ => ?_⟩
  · obtain ⟨d', z, q'⟩ := map_dat_get q
    cases z
    exact dd.get q'
  · obtain ⟨d', z, q'⟩ := map_dat_get q
    exact (OK.nodat z).elim
  · have kk : ∀ a o, H2 a = some o → H' a = some o := fun a o q => keep a o (fun i z => by cases z) q
    have hr' := hr
    unfold Dat at hr
    exact ⟨⟨b, hr⟩, k v H' (R2.grow kk) (s1.trans s2) ((g1.trans s1 g2).trans (s1.trans s2) fun a o _ q => kk a o q) hr'⟩
/-- isinstance(x, C), x an instance of it or a list -/
def fIsOL (C : Addr) (fa : EF) : EF := fun env => (fa env).bind fun p => (look p.2 p.1).bind fun d => match d with
  | .ins C' _ _ => if C' = C then some (.d (.bl true), p.2) else none
  | .lst _ => some (.d (.bl false), p.2)
  | _ => none
theorem re_isOL (cl : Cls K C) (h1 : PySem.W.findIn K (.ref C) "__class__" = some (some (.builtin "object.__class__"))) (h2 : PySem.W.specialIn K (.builtin "object.__class__") "__get__" = some (some (.builtin "getset_descriptor.__get__")))
    (h3 : PySem.W.takesIn K (.builtin "object.__class__") = some true) (h4 : PySem.W.mroIn K C (.type "object") = some true) (h5 : PySem.W.kitOne K (.ref C) (.ref C) = some true) (h6 : PySem.W.kitOne K (.type "list") (.ref C) = some false) (ha : RE ta fa) : RE (tCB (rIsi K) (tCons ta (tCons (tC (.ref C)) tNil))) (fIsOL C fa) := fun C0 env σ H Q rv env' h R k => by
  unfold fIsOL at h
  obtain ⟨⟨x, e1⟩, g1, k1⟩ := Option.bind_eq_some_iff.mp h
  obtain ⟨d, g2, k2⟩ := Option.bind_eq_some_iff.mp k1
  clear h k1
  cases d <;> try (cases k2; done)
  · cases k2
    refine ha C0 env σ H _ x _ g1 R fun vx H1 R1 s1 gr r1 => ?_
    have hd := look_ok R1 r1 g2
    unfold Dat at hd
    obtain ⟨a, vs, rfl, na, ea, _⟩ := hd
    exact ⟨.ref a, .ref C, .type "list", .ref C, false, rfl, .own C, .base (.lst ea), h6, k _ H1 R1 s1 gr (show Dat (MM C0 e1 σ) H1 (.bl false) _ by unfold Dat; rfl)⟩
  · rename_i C' ns' ds
    simp only at k2
    split at k2
    case isFalse => cases k2
    rename_i hc
    subst hc
    cases k2
    refine ha C0 env σ H _ x _ g1 R fun vx H1 R1 s1 gr r1 => ?_
    have hd := look_ok R1 r1 g2
    unfold Dat at hd
    obtain ⟨a, dx, vs, rfl, na, ea, _, _⟩ := hd
    exact ⟨.ref a, .ref C', .ref C', .ref C', true, rfl, .own C', .base (.ins ea cl h1 h2 h3 h4), h5, k _ H1 R1 s1 gr (show Dat (MM C0 env' σ) H1 (.bl true) _ by unfold Dat; rfl)⟩
end
/-- a, b = e, [..] where a name is a cell: the tuple is built and unpacked -/
theorem rs_tup2C {i j : Nat} {K : PySem.W.Frag} (hij : i ≠ j) {ta tb : TE} {fa : EF} {fb : LF} (ha : RE ta fa) (hb : RL tb fb) : RS (tAsg (tTup (tCons ta (tCons tb tNil))) (gTup K 2 (gCons (gName i) (gCons (gName j) gNil)))) (sParDO i j fa fb) := fun C env σ H D o h R k => by
  unfold sParDO at h
  obtain ⟨⟨x, e1⟩, h1, h⟩ := Option.bind_eq_some_iff.mp h
  obtain ⟨⟨dx, e2⟩, h2, h⟩ := Option.bind_eq_some_iff.mp h
  obtain ⟨⟨ys, e3⟩, h3, h⟩ := Option.bind_eq_some_iff.mp h
  split at h
  case isFalse => cases h
  rename_i hcs
  obtain ⟨e4, h4, h⟩ := Option.map_eq_some_iff.mp h
  cases h
  obtain ⟨s, es, ns⟩ := canSet_ok hcs
  refine ha C env σ H _ x e1 h1 R fun v H1 R1 s1 g1 r1 => ?_
  obtain ⟨R2, s2, d2⟩ := frz_ok R1 r1 h2
  refine hb C e2 σ H1 _ ys e3 h3 R2 fun p vs H2 dp h0 hm Rp s3 g3 hp hs => ?_
  refine ⟨by show 2 ≤ sizeLine; rw [PySem.sizeLine_eq]; omega, fun q nq => ?_⟩
  have qp : p ≠ q := fun z => by rw [z, nq] at hp; cases hp
  have Rq := Rp.alloc (o := .tup [v, .ref p]) nq
  obtain ⟨R4, m4⟩ := Rq.ownSet R.hio h0 hm es ns ((upd_ne qp).trans hp) ((Grow.new nq).dats (Sh.refl _) hs)
  refine ⟨q, _, rfl, SqT.of upd_same, rfl, v, _, rfl, .ref p, _, rfl, rfl, ?_⟩
  show D.nx ((σ.set i (some v)).set j (some (.ref p))) _
  rw [List.set_comm _ _ hij]
  exact rg_name C _ _ _ dx v _ e4 h4 R4 (((Grow.new nq).dat (Sh.refl _) (dp dx v d2)).to (fun _ _ _ q => q) fun a z => .inl (m4 a z)) fun σ6 R6 _ _ _ _ => k σ6 _ R6
section
variable {fa fb fd fk : EF} {env : DEnv}
@[simp] theorem e_dget : fDGet fd fk env = (fd env).bind fun p => (fk p.2).bind fun q => (dctL q.2 p.1).bind fun w => (val q.2 q.1).bind fun y => (keyOf y).bind fun k => (dGet k w.1 w.2).map fun z => (.d z, q.2) := rfl
@[simp] theorem e_din : fDIn fk fd env = (fk env).bind fun p => (fd p.2).bind fun q => (dctL q.2 q.1).bind fun w => (val q.2 p.1).bind fun y => (keyOf y).map fun k => (.d (.bl (dGet k w.1 w.2).isSome), q.2) := rfl
@[simp] theorem e_kNew : kNew env = some (([], []), env) := rfl
@[simp] theorem e_kCopy : kCopy fa env = (fa env).bind fun p => (dctL p.2 p.1).map fun w => (w, p.2) := rfl
@[simp] theorem e_ofK {f : KF} : fOfK f env = (f env).map fun p => (.d (.dct p.1.1 p.1.2), p.2) := rfl
@[simp] theorem e_ownK {i : Nat} {f : KF} : sOwnK i f env = (f env).bind fun p => if canSet p.2 i = true then some (.nx (p.2.set i (.ownD p.1.1 p.1.2))) else none := rfl
@[simp] theorem e_parKD {i j : Nat} {f : KF} : sParKD i j f fb env = (f env).bind fun p => (fb p.2).bind fun q => (frz q.2 q.1).bind fun y => if canSet y.2 i = true then (fName j y.1 (y.2.set i (.ownD p.1.1 p.1.2))).map Out.nx else none := rfl
@[simp] theorem e_lAdd : lAdd fa fb env = (fa env).bind fun p => (fb p.2).bind fun q => (seqL q.2 p.1).bind fun xs => (seqL q.2 q.1).bind fun ys => if xs.length + ys.length ≤ szL then some (xs ++ ys, q.2) else none := rfl
@[simp] theorem e_eqL {C : Addr} {ns : List Str} {F : FnF} : fEqL C ns F fa fb env = (fa env).bind fun p => (fb p.2).bind fun q => (val q.2 p.1).bind fun x => (val q.2 q.1).bind fun y => match x, y with
  | .ins C1 n1 d1, .lst d2 => if C1 = C ∧ n1 = ns then (F [.dat (.ins C1 n1 d1), .dat (.lst d2)]).bind fun z => match z.1 with
    | .bl b => some (.d (.bl b), q.2)
    | _ => none
    else none
  | _, _ => none := rfl
@[simp] theorem e_isOL {C : Addr} : fIsOL C fa env = (fa env).bind fun p => (look p.2 p.1).bind fun d => match d with
  | .ins C' _ _ => if C' = C then some (.d (.bl true), p.2) else none
  | .lst _ => some (.d (.bl false), p.2)
  | _ => none := rfl
end
end DL

set_option Elab.async false
set_option linter.all false
set_option maxRecDepth 100000
set_option maxHeartbeats 4000000
namespace DL
open PySem L2
section
variable {ms : List Dv} {mv : List V} {gV : List V → List V → List V} {n m : Nat} {b : List Nat} {E : XK} {ta tk : TA} {fa fk : AF} {env : DEnv}
/-- f(e, .., k = v, ..), a new list -/
def fNewK (n m N : Nat) (ms : List Dv) (b : List Nat) (F : List Dv → Option (List Dv)) (fa fk : AF) : LF := fun env => (fa env).bind fun p => (fk p.2).bind fun q => (frzs q.2 p.1).bind fun r => (frzs r.2 q.1).bind fun z => if r.1.length = n ∧ z.1.length = m ∧ (gix b (r.1 ++ ms ++ z.1)).length = N then (F (gix b (r.1 ++ ms ++ z.1))).map fun xs => (xs, z.2) else none
theorem rl_callK {N : Nat} {F : List Dv → Option (List Dv)} (hms : Cst ms mv) (hg : ∀ vs zs, gV vs zs = gix b (vs ++ mv ++ zs)) (ha : RA ta fa) (hk : RA tk fk) : RL (DG.tCallKn n m (spL N F) gV E ta tk) (fNewK n m N ms b F fa fk) := fun C0 env σ H Q xs env' h R k => by
  unfold fNewK at h
  obtain ⟨⟨rs, e1⟩, h1, k1⟩ := Option.bind_eq_some_iff.mp h
  obtain ⟨⟨ks, e2⟩, h2, k2⟩ := Option.bind_eq_some_iff.mp k1
  obtain ⟨⟨ds, e3⟩, h3, k3⟩ := Option.bind_eq_some_iff.mp k2
  obtain ⟨⟨es, e4⟩, h4, k4⟩ := Option.bind_eq_some_iff.mp k3
  clear h k1 k2 k3
  split at k4
  case isFalse => cases k4
  rename_i hn
  obtain ⟨ys, h5, k5⟩ := Option.map_eq_some_iff.mp k4
  cases k5
  refine ha C0 env σ H _ rs e1 h1 R fun vs H1 R1 s1 g1 r1 => ?_
  refine hk C0 e1 σ H1 _ ks e2 h2 R1 fun zs H2 R2 s2 g2 r2 => ?_
  obtain ⟨R3, s3, d3⟩ := frzs_ok R2 (RVs.step s2 g2 r1) h3
  obtain ⟨R4, s4, d4⟩ := frzs_ok R3 (RVs.step s3 (Grow.refl _ _ _) r2) h4
  have d3' := (Grow.refl _ _ H2).dats s4 d3
  have dd := dats_gix ((d3'.app (hms _ H2)).app d4) b
  refine ⟨by rw [d3.length]; exact hn.1, by rw [d4.length]; exact hn.2.1, ?_⟩
  rw [hg]
  have s12 := ((s1.trans s2).trans s3).trans s4
  have g12 := g1.trans s1 g2
  refine ⟨MM C0 e4 σ, _, _, h5, by rw [dd.length]; exact hn.2.2, dd, fun a q => R4.memM a q, fun p ws H' np hp keep hs => ?_⟩
  have kp : ∀ a o, (upd H2 p (.lst ws)) a = some o → H' a = some o := fun a o q => by
    by_cases z : a = p
    · subst z
      rw [upd_same] at q
      rw [hp, q]
    · rw [upd_ne z] at q
      exact keep a o q
  have R5 := (R4.plus np (.lst ws)).grow kp
  refine k p ws H' (fun d v q => (dat_plus s12 g12 np q).to (fun a u _ q => keep a u q) fun _ z => .inl z) (R4.h0 np) (fun z => R4.mem p z np) R5 s12 (g12.trans s12 fun a o _ q => keep a o q) hp ?_
  refine Dats.to (fun _ _ _ q => q) (fun a z => .inl ?_) _ _ hs
  rcases z with (z | z) | z
  · exact .inl (.inl z)
  · exact .inr z
  · exact .inl (.inr z)
@[simp] theorem e_newK {N : Nat} {F : List Dv → Option (List Dv)} : fNewK n m N ms b F fa fk env = (fa env).bind fun p => (fk p.2).bind fun q => (frzs q.2 p.1).bind fun r => (frzs r.2 q.1).bind fun z => if r.1.length = n ∧ z.1.length = m ∧ (gix b (r.1 ++ ms ++ z.1)).length = N then (F (gix b (r.1 ++ ms ++ z.1))).map fun xs => (xs, z.2) else none := rfl
end
end DL

set_option Elab.async false
set_option linter.all false
set_option maxRecDepth 100000
set_option maxHeartbeats 4000000
/-! Defs that raise, the try statement that keeps what was caught, isinstance of it and its field, as evaluators. -/
namespace DG
open PySem L2 PySem.Spec PyProof.Rows
/-- what a call may let out depends on the slots -/
def tCallS (sp : Sp) (dvs : List V) (E : L2.St → XK) (t : TA) : TE := fun σ H Q => t σ H fun vs H1 => sp (vs ++ dvs) H1 Q (E σ)
section
variable {X : Cx} {C : CXT} {k : Nat} {f : Addr} {fd : FuncData} {ps : List Str} {sp : Sp} {dvs : List V} {ds : List Value} {E : L2.St → XK} {n : Str} {po ps' : Pos} {e : Expr} {es : List Expr} {t : TA}
theorem run_gS {pins : List (Addr × Obj)} {σ : L2.St} {H : Hp} {s : Shared} {Q : VK} {us : List Value} {vs : List V} (F : FnG X.prog X.w X.K X.mg X.base C k f fd ps sp) (g : X.A.guards = some []) (hr : Room k X.A) (bd : Binds X.K fd ps ds) (vd : Vals dvs ds)
    (px : PassesAt C X σ (E σ)) (I : Inv X pins σ H s) (rv : Vals vs us) (want : sp (vs ++ dvs) H Q (E σ)) : wpAny (model X.prog X.w) X.A (call (.ref f) us) (EP X pins σ Q) X.xe s := by
  have rv' := rv.append vd
  have eqn : (us ++ ds).length = ps.length := rv'.length ▸ F.len _ _ _ _ want
  apply wpAny_call
  apply codeAny_mono (F.run X.A X.stack s H ⟨us, []⟩ _ _ Q (E σ) g hr I.env0 (bd s us I.kIn eqn) rv' want)
  intro res s₂ h
  match res, h with
  | .error x, h => exact px pins H s x s₂ I h
  | .ok (.ret x), h => exact I.after h
  | .ok .next, h => cases h
  | .ok .brk, h => cases h
  | .ok .cont, h => cases h
theorem callS_g (F : FnG X.prog X.w X.K X.mg X.base C k f fd ps sp) (g : X.A.guards = some []) (hr : Room k X.A) (gl : Gl X n) (m : X.mg n = some (.ref f)) (kp : PySem.W.keepIn X.K (.ref f) = true) (bd : Binds X.K fd ps ds) (vd : Vals dvs ds) (px : ∀ σ, PassesAt C X σ (E σ))
    (as : PA X (e :: es) t) (nd : (n == ("__debug__" : Str)) = false := by decide) (h1 : starEach (e :: es) X.env = (false, eval e X.env) :: starEach es X.env := by rfl) (h2 : (backTo po (starEach es X.env)).any (·.1) = false := by rfl) :
    PE X (.Call (.Name n ps') (e :: es) [] po) (tCallS sp dvs E t) := ⟨fun pins s σ H Q I h =>
  wpAny_Call_Name_kw (ld_glob I gl m (PySem.W.callWith_K (h₀ := X.base) I.ok.mod.kin kp (thn (as.run po pins s σ H _ I h) fun _ _ ⟨_, _, J, rv, q⟩ => ⟨J.kIn, run_gS F g hr bd vd (px σ) J rv q⟩) h1 h2) nd)⟩
end
end DG
namespace DL
open PySem L2 PyProof.Rows
/-- what is let out: its class, its fields -/
abbrev Exc := Addr × List Str × List Dv
abbrev FnX := List Dv → Option (Except Exc Dv)
/-- the promise of a def that may raise; its arguments are data -/
def spX (n : Nat) (F : FnX) : Sp := fun vs H Q E => ∃ (M : Addr → Prop) (as : List Dv) (r : Except Exc Dv), F as = some r ∧ vs.length = n ∧ Dats M H as vs ∧ (∀ a, M a → H a ≠ none) ∧ match r with
  | .ok d => ∀ v H', (∀ a o, H a = some o → H' a = some o) → Dat M H' d v → Q v H'
  | .error x => ∀ H' dd vs', (∀ a o, H a = some o → H' a = some o) → H' dd = some (.xd (x.2.1.zip vs')) → ¬ M dd → x.2.1.length = x.2.2.length → Dats M H' x.2.2 vs' → E (.ref x.1) (some dd) H'
theorem spX_len {n : Nat} {F : FnX} {vs : List V} {H : Hp} {Q : VK} {E : XK} (h : spX n F vs H Q E) : vs.length = n := by
  obtain ⟨_, _, _, _, h, _⟩ := h
  exact h
/-- the same def where it does not raise -/
def slotDs : List Slot → Option (List Dv)
  | [] => some []
  | .dat d :: r => (slotDs r).map (d :: ·)
  | _ :: _ => none
def unX (F : FnX) : FnF := fun as => (slotDs as).bind fun ds => match F ds with
  | some (.ok d) => some (d, [])
  | _ => none
theorem slotDs_ok {M : Addr → Prop} {H : Hp} : ∀ {as : List Slot} {ds : List Dv} {vs : List V}, slotDs as = some ds → vs.length = as.length → (∀ (i : Nat) d, as[i]? = some (.dat d) → ∃ v, vs[i]? = some v ∧ Dat M H d v) → Dats M H ds vs
  | [], ds, vs, h, hl, _ => by
    cases h
    cases vs with
    | nil => exact .nil
    | cons _ _ => cases hl
  | .dat d :: as, ds, vs, h, hl, hd => by
    unfold slotDs at h
    obtain ⟨r, h1, h2⟩ := Option.map_eq_some_iff.mp h
    subst h2
    cases vs with
    | nil => cases hl
    | cons v vs =>
      obtain ⟨v', e, q⟩ := hd 0 d rfl
      cases e
      unfold Dats
      exact ⟨v, vs, rfl, q, slotDs_ok h1 (by simpa using hl) fun i d z => hd (i + 1) d z⟩
  | .own _ _ :: _, _, _, h, _, _ => by cases h
  | .ownD _ _ :: _, _, _, h, _, _ => by cases h
  | .non :: _, _, _, h, _, _ => by cases h
theorem spX_of {n : Nat} {F : FnX} {vs : List V} {H : Hp} {Q : VK} {E : XK} (h : spD n (unX F) vs H Q E) : spX n F vs H Q E := by
  obtain ⟨M, io, as, r, ys, h1, h2, S, q⟩ := h
  unfold unX at h1
  obtain ⟨ds, h3, h4⟩ := Option.bind_eq_some_iff.mp h1
  split at h4
  case h_2 => cases h4
  rename_i d h5
  cases h4
  have noio : ∀ i a, io ≠ some (i, a) := fun i a z => by
    obtain ⟨_, _, xs, e⟩ := S.io i a z
    have : ∀ {as : List Slot} {ds : List Dv} {i : Nat}, slotDs as = some ds → as[i]? = some (.own true xs) → False := by
      intro as
      induction as with
      | nil => intro ds i _ e; simp at e
      | cons s as ih =>
        intro ds i hs e
        cases s with
        | dat d =>
          unfold slotDs at hs
          obtain ⟨r, h1, _⟩ := Option.map_eq_some_iff.mp hs
          cases i with
          | zero => cases e
          | succ i => exact ih h1 (by simpa using e)
        | own _ _ => cases hs
        | prv _ => cases hs
        | ownD _ _ => cases hs
        | non => cases hs
    exact this h3 e
  refine ⟨M, ds, _, h5, h2, slotDs_ok h3 S.len S.dat, S.mem, fun v H' k hd => q v H' (fun a o _ z => k a o z) hd fun i a z => absurd z (noio i a)⟩
/-! ### statements that may raise -/
inductive OX where
  | ok (o : Out)
  | ex (x : Exc) (e : DEnv)
inductive EO where
  | v (r : RV) (e : DEnv)
  | ex (x : Exc) (e : DEnv)
abbrev SX := DEnv → Option OX
abbrev EXF := DEnv → Option EO
def PostE (C : DC) (W : WX) (x : Exc) (e : DEnv) (σ0 : L2.St) : Prop := ∀ H dd vs, Rel C e σ0 H → H dd = some (.xd (x.2.1.zip vs)) → ¬ MM C e σ0 dd → x.2.1.length = x.2.2.length → Dats (MM C e σ0) H x.2.2 vs → W (.ref x.1) (some dd) σ0 H
def PostX (C : DC) (D : Ends) (W : WX) : OX → Prop
  | .ok o => Post C D o
  | .ex x e => ∀ σ, PostE C W x e σ
def RSX (W : WX) (t : TS) (g : SX) : Prop := ∀ (C : DC) (env : DEnv) (σ : L2.St) (H : Hp) (D : Ends) (o : OX), g env = some o → Rel C env σ H → PostX C D W o → t D σ H
def REX (W : WX) (t : TE) (g : EXF) : Prop := ∀ (C : DC) (env : DEnv) (σ : L2.St) (H : Hp) (Q : VK) (o : EO), g env = some o → Rel C env σ H → (match o with
  | .v rv env' => ∀ v H', Rel C env' σ H' → Sh env env' → Grow env σ H H' → RVr C env' σ H' rv v → Q v H'
  | .ex x e => PostE C W x e σ) → t σ H Q
section
variable {W : WX} {t u : TS} {tt : TT} {ft : TF} {f g : SX} {gs : SF}
def sOk (g : SF) : SX := fun env => (g env).map .ok
theorem rsx_of (h : RS t gs) : RSX W t (sOk gs) := fun C env σ H D o e R k => by
  unfold sOk at e
  obtain ⟨o', h1, h2⟩ := Option.map_eq_some_iff.mp e
  subst h2
  exact h C env σ H D o' h1 R k
def sSeqX (f g : SX) : SX := fun env => (f env).bind fun o => match o with
  | .ok (.nx e) => g e
  | o => some o
theorem rsx_seq (hf : RSX W t f) (hg : RSX W u g) : RSX W (tSeq t u) (sSeqX f g) := fun C env σ H D o h R k => by
  unfold sSeqX at h
  obtain ⟨o1, h1, h⟩ := Option.bind_eq_some_iff.mp h
  cases o1 with
  | ok o' =>
    cases o' with
    | nx e => exact hf C env σ H { D with nx := u D } _ h1 R fun σ1 H1 R1 => hg C e σ1 H1 D o h R1 k
    | bk e =>
      cases h
      exact hf C env σ H { D with nx := u D } _ h1 R k
    | ct e =>
      cases h
      exact hf C env σ H { D with nx := u D } _ h1 R k
    | rt d e =>
      cases h
      exact hf C env σ H { D with nx := u D } _ h1 R k
  | ex x e =>
    cases h
    exact hf C env σ H { D with nx := u D } _ h1 R k
def sIfX (c : TF) (f g : SX) : SX := fun env => (c env).bind fun p => if p.1 then f p.2 else g p.2
theorem rsx_if (hc : RT tt ft) (hf : RSX W t f) (hg : RSX W u g) : RSX W (tIfS tt t u) (sIfX ft f g) := fun C env σ H D o h R k => by
  unfold sIfX at h
  obtain ⟨⟨b, e1⟩, h1, h⟩ := Option.bind_eq_some_iff.mp h
  refine hc C env σ H _ b e1 h1 R fun H1 R1 s1 g1 => ?_
  cases b with
  | true => exact hf C e1 σ H1 D o h R1 k
  | false => exact hg C e1 σ H1 D o h R1 k
variable {te : TE} {fx : EXF}
def sDropX (fx : EXF) : SX := fun env => (fx env).map fun o => match o with
  | .v _ e => .ok (.nx e)
  | .ex x e => .ex x e
theorem rsx_drop (he : REX W te fx) : RSX W (tDrop te) (sDropX fx) := fun C env σ H D o h R k => by
  unfold sDropX at h
  obtain ⟨o1, h1, h2⟩ := Option.map_eq_some_iff.mp h
  subst h2
  refine he C env σ H _ o1 h1 R ?_
  cases o1 with
  | v r e => exact fun v H' R' _ _ _ => k σ H' R'
  | ex x e => exact k σ
def sRetX (fx : EXF) : SX := fun env => (fx env).bind fun o => match o with
  | .v r e => (frz e r).map fun q => .ok (.rt q.1 q.2)
  | .ex x e => some (.ex x e)
theorem rsx_ret (he : REX W te fx) : RSX W (tRet te) (sRetX fx) := fun C env σ H D o h R k => by
  unfold sRetX at h
  obtain ⟨o1, h1, h2⟩ := Option.bind_eq_some_iff.mp h
  refine he C env σ H _ o1 h1 R ?_
  cases o1 with
  | v r e =>
    obtain ⟨⟨d, e2⟩, h3, h4⟩ := Option.map_eq_some_iff.mp h2
    subst h4
    exact fun v H' R' _ _ r' => by
      obtain ⟨R2, _, hd⟩ := frz_ok R' r' h3
      exact k σ H' v R2 hd
  | ex x e =>
    cases h2
    exact k σ
def sAsgX (i : Nat) (fx : EXF) : SX := fun env => (fx env).bind fun o => match o with
  | .v r e => (frz e r).bind fun q => (fName i q.1 q.2).map fun e' => .ok (.nx e')
  | .ex x e => some (.ex x e)
theorem rsx_asg {i : Nat} (he : REX W te fx) : RSX W (tAsg te (gName i)) (sAsgX i fx) := fun C env σ H D o h R k => by
  unfold sAsgX at h
  obtain ⟨o1, h1, h2⟩ := Option.bind_eq_some_iff.mp h
  refine he C env σ H _ o1 h1 R ?_
  cases o1 with
  | v r e =>
    obtain ⟨⟨d, e2⟩, h3, h4⟩ := Option.bind_eq_some_iff.mp h2
    obtain ⟨e', h5, h6⟩ := Option.map_eq_some_iff.mp h4
    subst h6
    exact fun v H' R' _ _ r' => by
      obtain ⟨R2, _, hd⟩ := frz_ok R' r' h3
      exact rg_name C e2 σ H' d v D.nx e' h5 R2 hd fun σ' R3 _ _ _ _ => k σ' H' R3
  | ex x e =>
    cases h2
    exact k σ
end
/-! ### calls -/
def fCallX (n : Nat) (F : FnX) (fa : AF) : EXF := fun env => (fa env).bind fun p => if p.1.length = n then (frzs p.2 p.1).bind fun q => (F q.1).map fun r => match r with
  | .ok d => .v (.d d) q.2
  | .error x => .ex x q.2 else none
theorem re_callX {W : WX} {n : Nat} {F : FnX} {ta : TA} {fa : AF} (ha : RA ta fa) : REX W (DG.tCallS (spX n F) [] (WE W) ta) (fCallX n F fa) := fun C env σ H Q o h R k => by
  unfold fCallX at h
  obtain ⟨⟨rs, e1⟩, h1, h⟩ := Option.bind_eq_some_iff.mp h
  split at h
  case isFalse => cases h
  rename_i hn
  obtain ⟨⟨ds, e2⟩, h2, h⟩ := Option.bind_eq_some_iff.mp h
  obtain ⟨r, h3, h4⟩ := Option.map_eq_some_iff.mp h
  subst h4
  refine ha C env σ H _ rs e1 h1 R fun vs H1 R1 s1 g1 r1 => ?_
  show spX n F (vs ++ []) H1 Q _
  rw [List.append_nil]
  obtain ⟨R2, s2, d2⟩ := frzs_ok R1 r1 h2
  refine ⟨MM C e2 σ, ds, r, h3, by rw [r1.len]; exact hn, d2, R2.memM, ?_⟩
  cases r with
  | ok d => exact fun v H' kk hd => k v H' (R2.grow kk) (s1.trans s2) (g1.trans s1 fun a o _ q => kk a o q) hd
  | error x => exact fun H' dd vs' kk hx nm hl hd => k H' dd vs' (R2.grow kk) hx nm hl hd
/-! ### raise -/
def spV (C : Addr) (f : Str) : Sp := fun vs H Q _ => ∃ a y, vs = [V.ref a, y] ∧ H a = some (exo a C none) ∧ ∀ dx, H dx = none → dx ≠ a → Q .non (upd (upd H dx (exd dx [(f, y)])) a (exo a C (some dx)))
def sRaise (C : Addr) (f : Str) (fe : EF) : SX := fun env => (fe env).bind fun p => (frz p.2 p.1).map fun q => .ex (C, [f], [q.1]) q.2
theorem rsx_raise {W : WX} {C : Addr} {f : Str} {te : TE} {fe : EF} (he : RE te fe) : RSX W (fun _ σ H => tMkO C (spV C f) [] (tCons te tNil) σ H fun cls d H' => W cls d σ H') (sRaise C f fe) := fun C0 env σ H D o h R k => by
  unfold sRaise at h
  obtain ⟨⟨x, e1⟩, h1, h⟩ := Option.bind_eq_some_iff.mp h
  obtain ⟨⟨d, e2⟩, h2, h3⟩ := Option.map_eq_some_iff.mp h
  subst h3
  refine he C0 env σ H _ x e1 h1 R fun v H1 R1 s1 g1 r1 => ?_
  obtain ⟨R2, s2, hd⟩ := frz_ok R1 r1 h2
  show [v].length ≤ 1000 ∧ ∀ a, H1 a = none → spV C f [V.ref a, v] (upd H1 a (exo a C none)) _ _
  refine ⟨by simp, fun a na => ⟨a, v, rfl, upd_same, fun dx nd ne => ⟨rfl, dx, [(f, v)], upd_same, ?_, ?_, ?_⟩⟩⟩
  · rw [upd_ne ne, upd_same]
  · rw [upd_ne ne] at nd
    exact nd
  · rw [upd_ne ne] at nd
    have e : upd (L2.del (upd (upd (upd H1 a (exo a C none)) dx (exd dx [(f, v)])) a (exo a C (some dx))) a) dx (.xd [(f, v)]) = upd H1 dx (.xd [(f, v)]) := by
      funext b
      by_cases hb : b = dx
      · rw [hb, upd_same, upd_same]
      · rw [upd_ne hb, upd_ne hb]
        by_cases hb2 : b = a
        · rw [hb2, L2.del_same, na]
        · rw [L2.del_ne hb2, upd_ne hb2, upd_ne hb, upd_ne hb2]
    show W (.ref C) (some dx) σ (upd (L2.del (upd (upd (upd H1 a (exo a C none)) dx (exd dx [(f, v)])) a (exo a C (some dx))) a) dx (.xd [(f, v)]))
    rw [e]
    have kk : ∀ b o, H1 b = some o → upd H1 dx (.xd [(f, v)]) b = some o := fun b o q => by rw [upd_ne (ne_of_none q nd)]; exact q
    refine k σ (upd H1 dx (.xd [(f, v)])) dx [v] (R2.grow kk) upd_same (R2.fresh nd) rfl ?_
    exact .one (hd.to (fun b o _ q => kk b o q) fun _ z => .inl z)
end DL

set_option Elab.async false
set_option linter.all false
set_option maxRecDepth 100000
set_option maxHeartbeats 4000000
/-! A raising def's body; the try statement; isinstance of what was kept, its field. -/
namespace DL
open PySem L2 PyProof.Rows
def runX (n : Nat) (g : SX) : FnX := fun ds => (g (ds.map .dat ++ List.replicate (n - ds.length) .non)).bind fun o => match o with
  | .ok (.rt d _) => some (.ok d)
  | .ok (.nx _) => some (.ok .non)
  | .ex x _ => some (.error x)
  | _ => none
theorem body_okX {t : TS} {g : SX} {N ps : List Str} (hN : ps.length ≤ N.length) {vs : List V} {H : Hp} {Q : VK} {E : XK} (hg : RSX (fun cls d _ H => E cls d H) t g) (h : spX ps.length (runX N.length g) vs H Q E) :
    t { nx := fun _ H' => Q .non H', rt := Q } (L2.start N vs) H := by
  obtain ⟨M, as, r, hF, hl, S, hm, q⟩ := h
  unfold runX at hF
  obtain ⟨o, ho, hF⟩ := Option.bind_eq_some_iff.mp hF
  have hlen : as.length = ps.length := by rw [← S.length, hl]
  have stv : ∀ {i : Nat} {v : V}, vs[i]? = some v → (L2.start N vs)[i]? = some (some v) := fun {i v} z => by
    rw [start_get, if_pos (List.getElem?_eq_some_iff.mp z).1, z]
    rfl
  have noown : ∀ {i : Nat} {b : OK} {xs : List Dv}, (as.map Slot.dat ++ List.replicate (N.length - as.length) Slot.non)[i]? ≠ some (b.slot xs) := fun {i b xs} z => by
    obtain ⟨d, e, _⟩ := map_dat_get (pad_getK z)
    exact OK.nodat e
  have mm : ∀ a, MM { M0 := M, H0 := H, io := none } (as.map Slot.dat ++ List.replicate (N.length - as.length) .non) (L2.start N vs) a → M a := fun a z => by
    rcases z with z | ⟨i, b, xs, z1, _⟩
    · exact z
    · exact (noown z1).elim
  have R : Rel { M0 := M, H0 := H, io := none } (as.map Slot.dat ++ List.replicate (N.length - as.length) .non) (L2.start N vs) H := by
    refine ⟨?_, fun i d z => ?_, fun i b xs z => (noown z).elim, fun i b xs z => (noown z).elim, fun i j b c xs zs a z1 _ _ _ => (noown z1).elim, fun i xs z => (noown (b := .lst true) z).elim, fun i a z => (by cases z), fun i b xs a nb z1 _ => (noown z1).elim, fun a o _ z => z, fun a z => hm a z, fun i d z => absurd (pad_get (by intro z; cases z) z) (nop_map i d)⟩
    · rw [List.length_append, List.length_replicate, List.length_map]
      unfold L2.start
      rw [List.length_append, List.length_map, List.length_replicate, S.length]
    · obtain ⟨d', e, z'⟩ := map_dat_get (pad_get (by intro z; cases z) z)
      cases e
      obtain ⟨v, y1, y2⟩ := S.get z'
      exact ⟨v, stv y1, y2.to (fun _ _ _ q => q) fun a z => .inl (mm a z)⟩
  refine hg _ _ _ H _ o ho R ?_
  cases o with
  | ok o' =>
    cases o' with
    | nx e =>
      cases hF
      exact fun σ' H' R' => q .non H' (fun a o z => R'.keep a o (fun i y => by cases y) z) (by unfold Dat; rfl)
    | rt d e =>
      cases hF
      exact fun σ' H' v R' hd => q v H' (fun a o z => R'.keep a o (fun i y => by cases y) z) (hd.to (fun _ _ _ q => q) fun a z => .inl (.inl z))
    | bk e => cases hF
    | ct e => cases hF
  | ex x e =>
    cases hF
    exact fun σ' H' dd vs' R' hx nm hl hd => q H' dd vs' (fun a o z => R'.keep a o (fun i y => by cases y) z) hx (fun z => nm (.inl z)) hl (Dats.to (fun _ _ _ q => q) (fun a z => .inl (.inl z)) _ _ hd)
/-! ### a slot that is given up -/
theorem Rel.void {C : DC} {env : DEnv} {σ : L2.St} {H : Hp} (R : Rel C env σ H) {i : Nat} {x : Option V} (h : canSet env i = true) : Rel C (env.set i .non) (σ.set i x) H := by
  obtain ⟨s, es, ns⟩ := canSet_ok h
  have own : ∀ {j : Nat} {b : OK} {xs : List Dv}, (env.set i .non)[j]? = some (b.slot xs) → j ≠ i ∧ env[j]? = some (b.slot xs) ∧ (σ.set i x)[j]? = σ[j]? := fun {j b xs} z => by
    rw [set_get] at z
    by_cases e : i = j
    · rw [if_pos e] at z
      split at z
      · exact (OK.nonon (Option.some.inj z).symm).elim
      · cases z
    · rw [if_neg e] at z
      exact ⟨fun q => e q.symm, z, by rw [set_get, if_neg e]⟩
  have mm : ∀ a, MM C (env.set i .non) (σ.set i x) a → MM C env σ a := fun a z => by
    rcases z with z | ⟨j, b, xs, z1, z2⟩
    · exact .inl z
    · obtain ⟨_, e1, e2⟩ := own z1
      rw [e2] at z2
      exact .inr ⟨j, b, xs, e1, z2⟩
  refine ⟨by rw [List.length_set, List.length_set]; exact R.len, fun j d z => ?_, fun j b xs z => ?_, fun j b xs z => ?_, fun j k b c xs ys a z1 z2 y1 y2 => ?_, fun j xs z => ?_, fun j a z => ?_, fun j b xs a nb z1 z2 => ?_, R.keep, R.mem, R.prvTo rfl (fun j d z => by
    rw [set_get] at z
    by_cases e : i = j
    · rw [if_pos e] at z
      split at z <;> cases z
    · rw [if_neg e] at z
      exact ⟨z, by rw [set_get, if_neg e]⟩) (fun _ _ _ q => q) (fun a z => .inl (mm a z))⟩
  · rw [set_get] at z
    by_cases e : i = j
    · rw [if_pos e] at z
      split at z <;> cases z
    · rw [if_neg e] at z
      obtain ⟨v, y1, y2⟩ := R.dat j d z
      exact ⟨v, by rw [set_get, if_neg e]; exact y1, y2.to (fun _ _ _ q => q) fun a q => .inl (mm a q)⟩
  · obtain ⟨_, e1, e2⟩ := own z
    obtain ⟨a, vs, y1, y2, y3⟩ := R.own j b xs e1
    exact ⟨a, vs, by rw [e2]; exact y1, y2, Dats.to (fun _ _ _ q => q) (fun a q => .inl (mm a q)) _ _ y3⟩
  · exact R.fit j b xs (own z).2.1
  · obtain ⟨_, e1, e2⟩ := own z1
    obtain ⟨_, e3, e4⟩ := own z2
    exact R.inj j k b c xs ys a e1 e3 (by rw [← e2]; exact y1) (by rw [← e4]; exact y2)
  · exact R.io j xs (own (b := .lst true) z).2.1
  · obtain ⟨y1, xs, y2, y3⟩ := R.iob j a z
    have n : i ≠ j := fun e => by
      subst e
      rw [es] at y2
      exact ns xs (Option.some.inj y2)
    exact ⟨y1, xs, by rw [set_get, if_neg n]; exact y2, by rw [set_get, if_neg n]; exact y3⟩
  · obtain ⟨_, e1, e2⟩ := own z1
    exact R.no j b xs a nb e1 (by rw [← e2]; exact z2)
/-! ### try -/
def sTry (i j : Nat) (tbl : List Addr) (gx : SX) : SF := fun env => (gx env).bind fun o => match o with
  | .ok o => some o
  | .ex x e => if tbl.contains x.1 = true ∧ i ≠ j ∧ canSet e i = true then (fName j (.exc x.1 x.2.1 x.2.2) (e.set i .non)).map .nx else none
theorem rs_try {K : PySem.W.Frag} {c : Value} {i j : Nat} {tb : WX → TS} {gx : SX} {tbl : List Addr} (hm : ∀ C ∈ tbl, PySem.W.exmOne K (.ref C) c = some true) (hb : ∀ W, RSX W (tb W) gx) : RS (fun D σ H => tb (wKeep K c i j D) D σ H) (sTry i j tbl gx) := fun C env σ H D o h R k => by
  unfold sTry at h
  obtain ⟨o1, h1, h⟩ := Option.bind_eq_some_iff.mp h
  refine hb _ C env σ H D o1 h1 R ?_
  cases o1 with
  | ok o' =>
    cases h
    exact k
  | ex x e =>
    simp only at h
    split at h
    case isFalse => cases h
    rename_i hc
    obtain ⟨c1, c2, c3⟩ := hc
    obtain ⟨e', h2, h3⟩ := Option.map_eq_some_iff.mp h
    subst h3
    intro σ' H' dd vs R' hx nm hl hd
    refine ⟨hm _ (by simpa using c1), x.1, dd, rfl, rfl, fun a na => ?_⟩
    have kk : ∀ b o, H' b = some o → upd H' a (exk a x.1 dd) b = some o := fun b o q => by rw [upd_ne (ne_of_none q na)]; exact q
    have R1 := (R'.grow kk).void (x := none) c3
    have nd : dd ≠ a := ne_of_none hx na
    have mm : ∀ b, MM C (e.set i .non) (σ'.set i none) b → MM C e σ' b := fun b z => by
      rcases z with z | ⟨j', b', xs, z1, z2⟩
      · exact .inl z
      · rw [set_get] at z1
        by_cases q : i = j'
        · rw [if_pos q] at z1
          split at z1
          · exact (OK.nonon (Option.some.inj z1).symm).elim
          · cases z1
        · rw [if_neg q] at z1
          rw [set_get, if_neg q] at z2
          exact .inr ⟨j', b', xs, z1, z2⟩
    have da : Dat (MM C (e.set i .non) (σ'.set i none)) (upd H' a (exk a x.1 dd)) (.exc x.1 x.2.1 x.2.2) (.ref a) := by
      unfold Dat
      exact ⟨a, dd, vs, rfl, fun z => R'.fresh na (mm a z), fun z => nm (mm dd z), upd_same, by rw [upd_ne nd]; exact hx, hl, Dats.to (fun b o _ q => kk b o q) (fun b z => .inl (mm b z)) _ _ hd⟩
    have es : ((σ'.set i (some (V.ref a))).set j (some (V.ref a))).set i none = (σ'.set i none).set j (some (V.ref a)) := by
      rw [List.set_comm _ _ c2, List.set_set, List.set_comm _ _ c2]
    show D.nx (((σ'.set i (some (V.ref a))).set j (some (V.ref a))).set i none) _
    rw [es]
    exact rg_name C _ _ _ _ _ D.nx e' h2 R1 da fun σ2 R2 _ _ _ _ => k σ2 _ R2
/-! ### what was kept -/
/-- the classes' facts -/
structure XcC (K : PySem.W.Frag) (C : Addr) : Prop where
  is : ExcC K C
  fld : XfC K C
def fXv (tbl : List Addr) (n : Str) (fa : EF) : EF := fun env => (fa env).bind fun p => (val p.2 p.1).bind fun d => match d with
  | .exc C ns ds => if tbl.contains C = true then ((ns.zip ds).lookup n).map fun x => (.d x, p.2) else none
  | _ => none
theorem zip_lk {M : Addr → Prop} {H : Hp} {n : Str} : ∀ {ns : List Str} {ds : List Dv} {vs : List V} {x : Dv}, Dats M H ds vs → (ns.zip ds).lookup n = some x → ∃ v, (ns.zip vs).lookup n = some v ∧ Dat M H x v
  | [], _, _, _, _, h => by simp at h
  | _ :: _, [], _, _, _, h => by simp at h
  | m :: ns, d :: ds, vs, x, hd, h => by
    unfold Dats at hd
    obtain ⟨v, r, rfl, h1, h2⟩ := hd
    rw [List.zip_cons_cons, List.lookup_cons] at h ⊢
    cases e : n == m with
    | true =>
      rw [e] at h
      cases h
      exact ⟨v, rfl, h1⟩
    | false =>
      rw [e] at h
      exact zip_lk h2 h
theorem re_xv {K : PySem.W.Frag} {tbl : List Addr} {n : Str} {ta : TE} {fa : EF} (hf : ∀ C ∈ tbl, XcC K C ∧ PySem.W.findIn K (.ref C) n = some none) (ha : RE ta fa) : RE (tXv K n ta) (fXv tbl n fa) := fun C0 env σ H Q rv env' h R k => by
  unfold fXv at h
  obtain ⟨⟨x, e1⟩, g1, k1⟩ := Option.bind_eq_some_iff.mp h
  obtain ⟨d, g2, k2⟩ := Option.bind_eq_some_iff.mp k1
  clear h k1
  cases d <;> try (cases k2; done)
  rename_i C ns ds
  simp only at k2
  split at k2
  case isFalse => cases k2
  rename_i hc
  obtain ⟨y, k3, k4⟩ := Option.map_eq_some_iff.mp k2
  cases k4
  refine ha C0 env σ H _ x _ g1 R fun vx H1 R1 s1 gr r1 => ?_
  have hd := val_ok R1 r1 g2
  unfold Dat at hd
  obtain ⟨a, dd, vs, rfl, na, nd, ea, ed, hl, hs⟩ := hd
  obtain ⟨v, l1, l2⟩ := zip_lk hs k3
  obtain ⟨F, hno⟩ := hf C (by simpa using hc)
  exact ⟨a, C, dd, _, v, rfl, ⟨ea, ed, F.is⟩, F.fld, hno, l1, k v H1 R1 s1 gr l2⟩
def fIsX (tbl : List (Addr × Bool)) (fa : EF) : EF := fun env => (fa env).bind fun p => (look p.2 p.1).bind fun d => match d with
  | .non => some (.d (.bl false), p.2)
  | .exc C _ _ => (tbl.lookup C).map fun b => (.d (.bl b), p.2)
  | _ => none
theorem lookup_mem {tbl : List (Addr × Bool)} {C : Addr} {b : Bool} (h : tbl.lookup C = some b) : (C, b) ∈ tbl := by
  induction tbl with
  | nil => cases h
  | cons p l ih =>
    rw [List.lookup_cons] at h
    cases e : C == p.1 with
    | true =>
      rw [e] at h
      have e2 : C = p.1 := by simpa using e
      have e3 := Option.some.inj h
      rw [e2, ← e3]
      exact List.mem_cons_self
    | false =>
      rw [e] at h
      exact List.mem_cons_of_mem _ (ih h)
theorem re_isX {K : PySem.W.Frag} {tbl : List (Addr × Bool)} {D : Addr} {ta : TE} {fa : EF} (hf : ∀ p ∈ tbl, ExcC K p.1 ∧ PySem.W.kitOne K (.ref p.1) (.ref D) = some p.2) (h0 : PySem.W.kitOne K (.type "NoneType") (.ref D) = some false) (ha : RE ta fa) :
    RE (tCB (rIsX K) (tCons ta (tCons (tC (.ref D)) tNil))) (fIsX tbl fa) := fun C0 env σ H Q rv env' h R k => by
  unfold fIsX at h
  obtain ⟨⟨x, e1⟩, g1, k1⟩ := Option.bind_eq_some_iff.mp h
  obtain ⟨d, g2, k2⟩ := Option.bind_eq_some_iff.mp k1
  clear h k1
  cases d <;> try (cases k2; done)
  case non =>
    cases k2
    refine ha C0 env σ H _ x _ g1 R fun vx H1 R1 s1 gr r1 => ?_
    have hd := look_ok R1 r1 g2
    unfold Dat at hd
    subst hd
    exact .inl ⟨.non, .ref D, .type "NoneType", .ref D, false, rfl, .own D, .base .non, h0, k _ H1 R1 s1 gr (show Dat (MM C0 e1 σ) H1 (.bl false) (.bl false) by unfold Dat; rfl)⟩
  case exc C ns ds =>
    obtain ⟨b, k3, k4⟩ := Option.map_eq_some_iff.mp k2
    cases k4
    refine ha C0 env σ H _ x _ g1 R fun vx H1 R1 s1 gr r1 => ?_
    have hd := look_ok R1 r1 g2
    unfold Dat at hd
    obtain ⟨a, dd, vs, rfl, na, nd, ea, ed, hl, hs⟩ := hd
    obtain ⟨F, e⟩ := hf _ (lookup_mem k3)
    exact .inr ⟨a, C, dd, _, .ref D, .ref D, b, rfl, .own D, ⟨ea, ed, F⟩, e, k _ H1 R1 s1 gr (show Dat (MM C0 e1 σ) H1 (.bl b) (.bl b) by unfold Dat; rfl)⟩
/-- isinstance(e, (C, D, ..)) -/
def clsL : List Dv → Option (List Addr)
  | [] => some []
  | .cls C :: r => (clsL r).map (C :: ·)
  | _ :: _ => none
def fIsXT (cs : List Addr) (tbl : List (Addr × Bool)) (fa fb : EF) : EF := fun env => (fa env).bind fun p => (val p.2 p.1).bind fun d => (fb p.2).bind fun q => match q.1 with
  | .d (.tup xs) => if clsL xs = some cs then (match d with
    | .non => some (.d (.bl false), q.2)
    | .exc C _ _ => (tbl.lookup C).map fun b => (.d (.bl b), q.2)
    | _ => none) else none
  | _ => none
theorem clsL_ok {M : Addr → Prop} {H : Hp} : ∀ {xs : List Dv} {cs : List Addr} {vs : List V}, clsL xs = some cs → Dats M H xs vs → Paired ClsV vs (cs.map Value.ref)
  | [], _, vs, h, hd => by
    cases h
    have hd : vs = [] := hd
    subst hd
    exact .nil
  | .cls C :: r, cs, vs, h, hd => by
    unfold clsL at h
    obtain ⟨l, h1, h2⟩ := Option.map_eq_some_iff.mp h
    subst h2
    unfold Dats at hd
    obtain ⟨v, ws, rfl, d1, d2⟩ := hd
    unfold Dat at d1
    subst d1
    exact .cons (.own C) (clsL_ok h1 d2)
  | .non :: _, _, _, h, _ => by cases h
  | .bl _ :: _, _, _, h, _ => by cases h
  | .int _ :: _, _, _, h, _ => by cases h
  | .str _ :: _, _, _, h, _ => by cases h
  | .lst _ :: _, _, _, h, _ => by cases h
  | .tup _ :: _, _, _, h, _ => by cases h
  | .ins _ _ _ :: _, _, _, h, _ => by cases h
  | .ty _ :: _, _, _, h, _ => by cases h
  | .anyS :: _, _, _, h, _ => by cases h
  | .dct _ _ :: _, _, _, h, _ => by cases h
  | .exc _ _ _ :: _, _, _, h, _ => by cases h
  | .scr _ _ :: _, _, _, h, _ => by cases h
theorem re_isXT {K : PySem.W.Frag} {cs : List Addr} {tbl : List (Addr × Bool)} {ta tb : TE} {fa fb : EF} (hf : ∀ p ∈ tbl, ExcC K p.1 ∧ PySem.W.kitAny K (.ref p.1) (cs.map Value.ref) = some p.2) (h0 : PySem.W.kitAny K (.type "NoneType") (cs.map Value.ref) = some false) (ha : RE ta fa) (hb : RE tb fb) :
    RE (tCB (rIsXT K) (tCons ta (tCons tb tNil))) (fIsXT cs tbl fa fb) := fun C0 env σ H Q rv env' h R k => by
  unfold fIsXT at h
  obtain ⟨⟨x, e1⟩, g1, k1⟩ := Option.bind_eq_some_iff.mp h
  obtain ⟨d, g2, k2⟩ := Option.bind_eq_some_iff.mp k1
  obtain ⟨⟨y, e2⟩, g3, k3⟩ := Option.bind_eq_some_iff.mp k2
  clear h k1 k2
  simp only at k3
  split at k3
  case h_2 => cases k3
  rename_i _ xs
  split at k3
  case isFalse => cases k3
  rename_i hc
  refine ha C0 env σ H _ x _ g1 R fun vx H1 R1 s1 gr r1 => ?_
  have hd1 := val_ok R1 r1 g2
  refine hb C0 e1 σ H1 _ _ _ g3 R1 fun vy H2 R2 s2 gr2 r2 => ?_
  have hd := gr2.dat s2 hd1
  have r2 : Dat (MM C0 e2 σ) H2 (.tup xs) vy := r2
  unfold Dat at r2
  obtain ⟨tp, ws, rfl, _, htp, hw⟩ := r2
  have pc := clsL_ok hc hw
  have st := s1.trans s2
  have gt := gr.trans s1 gr2
  have bd : ∀ b : Bool, RVr C0 e2 σ H2 (.d (.bl b)) (.bl b) := fun b => (show Dat (MM C0 e2 σ) H2 (.bl b) (.bl b) by unfold Dat; rfl)
  cases d <;> try (cases k3; done)
  case non =>
    cases k3
    unfold Dat at hd
    subst hd
    exact .inl ⟨.non, tp, ws, .type "NoneType", _, false, rfl, htp, pc, .base .non, h0, k _ H2 R2 st gt (bd false)⟩
  case exc C ns ds =>
    obtain ⟨b, k4, k5⟩ := Option.map_eq_some_iff.mp k3
    cases k5
    unfold Dat at hd
    obtain ⟨a, dd, vs, rfl, na, nd, ea, ed, hl, hs⟩ := hd
    obtain ⟨F, e⟩ := hf _ (lookup_mem k4)
    exact .inr ⟨a, C, dd, _, tp, ws, _, b, rfl, htp, pc, ⟨ea, ed, F⟩, e, k _ H2 R2 st gt (bd b)⟩
end DL

set_option Elab.async false
set_option linter.all false
set_option maxRecDepth 100000
set_option maxHeartbeats 4000000
/-! The program's exception classes: super().__init__(value), self.value = value. -/
namespace DL
open PySem L2 PyProof.Rows
/-- the __init__ of such a class, as the written part has it -/
structure FunS (P : Program) (K : PySem.W.Frag) (D : Addr) (qual : Str) (st : Stmt) (f : Addr) (fd : FuncData) : Prop where
  ex : ∃ (oc : Value) (od : Option Addr) (osl : Array (Option Value)) (dt : Addr) (kV doc pm : Value) (an : Option Addr) (ct : Value) (cda cc : Addr),
    fd = PySem.W.ksFn "__init__" qual (defArgs st) (defBody st) (defScope st) (.ref dt) kV doc pm an (.ref cda) ct cc ∧ K.lookup f = some ⟨oc, od, .func fd, osl⟩ ∧ PySem.W.codeIn K (.ref cda) qual = true ∧ SupC P K D cc cda ∧
    ∃ (to : Value) (td : Option Addr) (ts : Array (Option Value)) (dn : Nat), K.lookup dt = some ⟨to, td, .seq #[.none] dn, ts⟩
theorem ini_ok {P : Program} {w : World} {K : PySem.W.Frag} {mg : Str → Option Value} {base : Heap} {D f : Addr} {qual : Str} {st : Stmt} {fd : FuncData} (F : FunS P K D qual st f fd) {p0 p1 p2 p3 p4 q1 q2 q3 q4 q5 : Pos} {ar : Arg}
    (hb : defBody st = .Expr (.Call (.Attribute (.Call (.Name "super" p0) [] [] p1) "__init__" p2) [.Name "value" q1] [] p3) p4 :: [.Assign [.Attribute (.Name "self" q2) "value" q3] (.Name "value" q4) q5])
    (S : SupScope ["self", "value"] ["self", "value"] (defScope st)) (hp : ((defArgs st).posonlyargs ++ (defArgs st).args).head? = some ar) (har : ar.arg = "self") (hv : PySem.W.findIn K (.ref D) "value" = some none) (hs : mg "super" = none)
    (he : ∀ env : Env, env.scope = defScope st → ∃ pl : Sem Bool, eval (.Call (.Attribute (.Call (.Name "super" p0) [] [] p1) "__init__" p2) [.Name "value" q1] [] p3) env = (do
      let ov ← attributeBase (.Call (.Name "super" p0) [] [] p1) "__init__" env (eval (.Call (.Name "super" p0) [] [] p1) env)
      standAt p2.atName
      let (f, first) ← holding [ov] (getMethod ov "__init__" pl)
      callWith p3 f first (backTo p3 (starEach [.Name "value" q1] env)) [])) :
    FnOk P w K mg base L2.CX0 1 f fd ["self", "value"] (spV D "value") := by
  obtain ⟨oc, od, osl, dt, kV, doc, pm, an, ct, cda, cc, rfl, lk, hcd, T, _⟩ := F.ex
  rw [hb] at lk ⊢
  have v0 : (defScope st).names.lookup ("self" : Str) = some .local := S.par _ (by simp)
  have v1 : (defScope st).names.lookup ("value" : Str) = some .local := S.par _ (by simp)
  refine fn_super (k := 0) lk hcd S T hs hp (by rw [har]; rfl) (fun vs H Q E h => ?_) (fun _ => rfl) (fun _ _ => rfl) he (fun _ e => ?_) (fun _ => rfl) fun A outer s H vs Q E r h => ?_
  · obtain ⟨a, y, rfl, _⟩ := h
    rfl
  · unfold interactive
    rw [e, S.kind]
    rfl
  · obtain ⟨a, y, rfl, ea, hq⟩ := h
    refine ⟨a, tCons (tVar 1) tNil, tOst K "value" (tVar 0) (tVar 1), rfl, ea, pa_cons (pe_var (i := 1) rfl (.inl v1)) pa_nil, pss_one (ps_ost (pe_var (i := 0) rfl (.inl v0)) (pe_var (i := 1) rfl (.inl v1))), ?_⟩
    refine ⟨y, rfl, by simp, ea, y, rfl, .ref a, rfl, a, D, rfl, T.ox, hv, .inl ⟨ea, fun dx n ne => hq dx n ne⟩⟩
/-- C(e, ..) of such a class -/
theorem mkV {X : Cx} {x : Str} {C fI : Addr} {fd : FuncData} {te : TE} {e : Expr} {p pos : Pos} (T : OexC X.K C) (iC : PySem.W.findIn X.K (.ref C) "__init__" = some (some (.ref fI))) (tI : PySem.W.typeIn X.K (.ref fI) = some (.type "function"))
    (F1 : FnOk X.prog X.w X.K X.mg X.base L2.CX0 1 fI fd ["self", "value"] (spV C "value")) (hr : Room 2 X.A) (hb : Binds X.K fd ["self", "value"] []) (hg : Gl X x) (hm : X.mg x = some (.ref C)) (ha : PE X e te)
    (hdb : (x == ("__debug__" : Str)) = false := by decide) (he : starEach [e] X.env = (false, eval e X.env) :: starEach [] X.env := by rfl) (hpl : (backTo pos (starEach [] X.env)).any (·.1) = false := by rfl) :
    PMk X (.Call (.Name x p) [e] [] pos) (tMkO C (spV C "value") [] (tCons te tNil)) := pmk_oex T iC tI F1 hr hb .nil L2.pass0 hg hm (pa_cons ha pa_nil he) hdb he hpl
end DL

set_option Elab.async false
set_option linter.all false
set_option maxRecDepth 100000
set_option maxHeartbeats 4000000
/-! What the written part says of an exception class, asked by one Bool; helpers for the printed texts. -/
namespace DL
open PySem L2 PyProof.Rows
def oexB (K : PySem.W.Frag) (C : Addr) : Bool := match K.lookup C with
  | some ⟨.type "type", _, .cls cd, sl⟩ => (match cd.mro, sl.toList with
    | .ref C' :: bm, [_, _, _, _, some (.builtin n), _] => C' == C && n == "ValueError.__new__" && !cd.hasDel && cd.hasDict && PySem.HandSPX.refsVE bm
    | _, _ => false)
  | _ => false
theorem oexB_ok {K : PySem.W.Frag} {C : Addr} (q : oexB K C = true) : ∃ nm q N bs bm sn sub ab col dd k0 k1 k2 k3 k5, K.lookup C = some (excClassObj nm q C N bs bm true sn sub ab col dd k0 k1 k2 k3 k5 "ValueError.__new__") ∧ PySem.HandSPX.refsVE bm = true := by
  unfold oexB at q
  split at q
  · rename_i dd cd sl ho
    split at q
    · rename_i C' bm k0 k1 k2 k3 n k5 hm hs
      simp only [Bool.and_eq_true, beq_iff_eq, Bool.not_eq_true'] at q
      obtain ⟨⟨⟨⟨rfl, rfl⟩, hdel⟩, hdic⟩, ht⟩ := q
      obtain ⟨nm, bs, mro, ns, qn, hd, sn, sub, ab, col, del⟩ := cd
      dsimp only at hm hdel hdic
      subst hm hdel hdic
      have hsl : sl = #[k0, k1, k2, k3, some (.builtin "ValueError.__new__"), k5] := by
        obtain ⟨l⟩ := sl
        simp only at hs
        rw [hs]
      subst hsl
      exact ⟨nm, qn, ns, bs, bm, sn, sub, ab, col, dd, k0, k1, k2, k3, k5, ho, ht⟩
    · cases q
  · cases q
def xclsB (K : PySem.W.Frag) (C : Addr) : Bool :=
  oexB K C && (decide (PySem.W.findIn K (.ref C) "__setattr__" = some (some (.builtin "object.__setattr__"))) && (decide (PySem.W.subIn K (.ref C) (.type "BaseException") = some true) && (decide (PySem.W.typeIn K (.ref C) = some (.type "type")) && (PySem.W.keepIn K (.ref C) &&
  (decide (PySem.W.ks_superIn K C C "__init__" = some (some (.builtin "ValueError.__init__"))) && (decide (PySem.W.mroIn K C (.ref C) = some true) && (decide (PySem.W.subIn K (.ref C) (.type "ValueError") = some true) && (decide (PySem.W.nsIn K cStatics "thirdparty.any" = some none) && (xfB K C &&
  (decide (PySem.W.findIn K (.ref C) "__class__" = some (some (.builtin "object.__class__"))) && (decide (PySem.W.specialIn K (.builtin "object.__class__") "__get__" = some (some (.builtin "getset_descriptor.__get__"))) && (decide (PySem.W.takesIn K (.builtin "object.__class__") = some true) && (decide (PySem.W.mroIn K C (.type "object") = some true) &&
  decide (PySem.W.findIn K (.ref C) "value" = some none))))))))))))))
structure XCls (K : PySem.W.Frag) (C : Addr) : Prop where
  ox : OexC K C
  xc : XcC K C
  vl : PySem.W.findIn K (.ref C) "value" = some none
  sup : PySem.W.ks_superIn K C C "__init__" = some (some (.builtin "ValueError.__init__"))
  self : PySem.W.mroIn K C (.ref C) = some true
  base : PySem.W.subIn K (.ref C) (.type "ValueError") = some true
  op : PySem.W.nsIn K cStatics "thirdparty.any" = some none
theorem xclsB_ok {K : PySem.W.Frag} {C : Addr} (h : xclsB K C = true) : XCls K C := by
  unfold xclsB at h
  simp only [Bool.and_eq_true, decide_eq_true_eq] at h
  obtain ⟨h1, h2, h3, h4, h5, h6, h7, h8, h9, h10, h11, h12, h13, h14, h15⟩ := h
  have F := xfB_ok h10
  exact ⟨⟨oexB_ok h1, h2, h3, h4, h5⟩, ⟨⟨F.ga, F.gg, F.exC, F.hdC, h11, h12, h13, h14⟩, F⟩, h15, h6, h7, h8, h9⟩
theorem funS_mk {P : Program} {K : PySem.W.Frag} {C f : Addr} {qual : Str} {st : Stmt} {oc : Value} {od : Option Addr} {osl : Array (Option Value)} {dt : Addr} {kV doc pm : Value} {an : Option Addr} {ct : Value} {cda cc : Addr} {to : Value} {td : Option Addr} {ts : Array (Option Value)} {dn : Nat}
    {cl : Value} {cld : Option Addr} {csl : Array (Option Value)} {ccl : Value} {cdd : Option Addr} {cvs : Array Value} {ccs : Array (Option Value)} {file : Str} {tf : Tok} (X : XCls K C)
    (l : K.lookup f = some ⟨oc, od, .func (PySem.W.ksFn "__init__" qual (defArgs st) (defBody st) (defScope st) (.ref dt) kV doc pm an (.ref cda) ct cc), osl⟩) (c : PySem.W.codeIn K (.ref cda) qual = true) (ld : K.lookup dt = some ⟨to, td, .seq #[.none] dn, ts⟩)
    (le : K.lookup cc = some ⟨cl, cld, .cell (some (.ref C)), csl⟩) (lg : K.lookup cda = some ⟨ccl, cdd, .fields cvs, ccs⟩) (lh : cvs[2]? = some (.str file tf)) (lj : ((P.main.file : Str) == file) = true) (lt : (P.main.scope.names.lookup ("super" : Str)).isSome = false) :
    FunS P K C qual st f (PySem.W.ksFn "__init__" qual (defArgs st) (defBody st) (defScope st) (.ref dt) kV doc pm an (.ref cda) ct cc) :=
  ⟨oc, od, osl, dt, kV, doc, pm, an, ct, cda, cc, rfl, l, c, ⟨X.ox, ⟨cl, cld, csl, le⟩, ⟨ccl, cdd, cvs, ccs, file, tf, lg, lh, lj⟩, X.sup, X.self, X.base, X.op, lt⟩, to, td, ts, dn, ld⟩
/-- both arguments are given -/
theorem funS_binds {P : Program} {K : PySem.W.Frag} {C f : Addr} {qual : Str} {st : Stmt} {fd : FuncData} (F : FunS P K C qual st f fd)
    (h : ∀ (dt cda cc : Addr) (kV doc pm ct a b : Value) (an : Option Addr), ∃ k : Option (Array Value) → Sem (List (Str × Value)),
      bindArgs (PySem.W.ksFn "__init__" qual (defArgs st) (defBody st) (defScope st) (.ref dt) kV doc pm an (.ref cda) ct cc) ⟨[a, b], []⟩ = seqItems? (.ref dt) >>= k ∧ k (some #[.none]) = pure [(("self" : Str), a), (("value" : Str), b)]) : L2.Binds K fd ["self", "value"] [] := by
  obtain ⟨oc, od, osl, dt, kV, doc, pm, an, ct, cda, cc, rfl, lk, hcd, T, to, td, ts, dn, ld⟩ := F.ex
  intro s us X hl
  rw [List.append_nil] at hl ⊢
  match us, hl with
  | [a, b], _ =>
    obtain ⟨k, h1, h2⟩ := h dt cda cc kV doc pm ct a b an
    exact BindsTo.of_defaults rfl (X _ _ ld) rfl h1 h2
/-- where it does not raise, nothing is let out -/
theorem noX {P : Program} {w : World} {K : PySem.W.Frag} {mg : Str → Option Value} {base : Heap} {k : Nat} {f : Addr} {fd : FuncData} {ps : List Str} {n : Nat} {F : FnX} (G : DG.FnG P w K mg base (L2.CX P w) k f fd ps (spX n F)) :
    DG.FnG P w K mg base L2.CX0 k f fd ps (spD n (unX F)) := by
  refine ⟨fun vs H Q E h => G.len vs H Q E (spX_of h), fun A out s H ar us vs Q E g hr e0 hb rv h => ?_⟩
  have h' : spX n F vs H Q fun _ _ _ => False := spX_of (E := fun _ _ _ => False) h
  refine codeAny_mono (G.run A out s H ar us vs Q (fun _ _ _ => False) g hr e0 hb rv h') fun r s' q => ?_
  cases r with
  | error e =>
    obtain ⟨_, _, _, _, _, _, _, _, _, _, _, _, z⟩ := q
    exact z.elim
  | ok fl => cases fl <;> exact q
theorem kitAny2 {K : PySem.W.Frag} {t a b : Value} {x y : Bool} (h1 : PySem.W.kitOne K t a = some x) (h2 : PySem.W.kitOne K t b = some y) : PySem.W.kitAny K t [a, b] = some (x || y) := by
  unfold PySem.W.kitAny
  rw [h1]
  cases x with
  | true => rfl
  | false =>
    show PySem.W.kitAny K t [b] = _
    unfold PySem.W.kitAny
    rw [h2]
    cases y <;> rfl
end DL

set_option Elab.async false
set_option linter.all false
set_option maxRecDepth 100000
set_option maxHeartbeats 4000000
/-! list(range(n)). -/
namespace DL
open PySem L2 PyProof.Rows
theorem dats_rg {M : Addr → Prop} {H : Hp} (n : Nat) : Dats M H (rangeD 0 n) (rgV 0 (n : Int)) := by
  unfold rangeD rgV
  rw [show ((n : Int) - 0).toNat = n by omega]
  have key : ∀ l : List Nat, Dats M H (l.map fun (i : Nat) => Dv.int (0 + (i : Int))) (l.map fun (i : Nat) => V.int (0 + (i : Nat))) := by
    intro l
    induction l with
    | nil => exact .nil
    | cons a r ih =>
      rw [List.map_cons, List.map_cons]
      unfold Dats
      exact ⟨_, _, rfl, by unfold Dat; rfl, ih⟩
  exact key _
def lrC (j : Int) : Prop := 0 ≤ j ∧ j ≤ (szL : Int)
noncomputable instance (j : Int) : Decidable (lrC j) := Classical.propDecidable _
noncomputable def lRng1 (fe : EF) : LF := fun env => (fe env).bind fun p => (asI p.2 p.1).bind fun j => if lrC j then some (rangeD 0 j.toNat, p.2) else none
theorem rl_rng1 {te : TE} {fe : EF} (he : RE te fe) : RL (tLstRg (tRg1 te)) (lRng1 fe) := fun C env σ H Q xs env' h R k => by
  unfold lRng1 at h
  obtain ⟨⟨x, e1⟩, h1, h⟩ := Option.bind_eq_some_iff.mp h
  obtain ⟨j, h2, h⟩ := Option.bind_eq_some_iff.mp h
  split at h
  case isFalse => cases h
  rename_i hz
  have hz : 0 ≤ j ∧ j ≤ (szL : Int) := hz
  cases h
  refine he C env σ H _ x e1 h1 R fun v H1 R1 s1 g1 r1 => ?_
  have hs : (szL : Int) = 16000000 := rfl
  refine ⟨j, asI_ok R1 r1 h2, ⟨by omega, by omega, by omega, by omega, by omega⟩, fun p np => ?_⟩
  have ej : j = (j.toNat : Int) := by omega
  refine k p (rgV 0 j) _ (fun d v q => (dat_plus s1 g1 np q).to (fun a u _ q => by rw [upd_ne (ne_of_none q np)]; exact q) fun _ z => .inl z) (R1.h0 np) (fun z => R1.mem p z np) (R1.plus np _) s1 (g1.trans s1 (Grow.new np)) upd_same ?_
  rw [ej]
  exact dats_rg _
end DL

set_option Elab.async false
set_option linter.all false
set_option maxRecDepth 100000
set_option maxHeartbeats 4000000
/-! Data whose lists one slot alone holds: how it comes and goes. -/
namespace DL
open PySem L2 PyProof.Rows
def noPrv : Slot → Bool
  | .prv _ => false
  | _ => true
/-- what holds no list -/
def slotFree : Slot → Bool
  | .non => true
  | .dat d => noL d
  | .own _ xs => xs.all immB
  | .ownD _ xs => xs.all immB
  | .prv _ => false
def hs : Bool → Slot → Slot
  | true, .dat _ => .non
  | _, s => s
/-- the named slots are left out -/
def hid (ks : List Nat) : Nat → DEnv → DEnv
  | _, [] => []
  | i, s :: e => hs (ks.contains i) s :: hid ks (i + 1) e
theorem hid_get (ks : List Nat) : ∀ (e : DEnv) (i j : Nat), (hid ks i e)[j]? = (e[j]?).map (hs (ks.contains (i + j)))
  | [], _, _ => by simp [hid]
  | s :: e, i, 0 => by simp [hid]
  | s :: e, i, j + 1 => by
    unfold hid
    rw [List.getElem?_cons_succ, List.getElem?_cons_succ, hid_get ks e (i + 1) j]
    congr 2
    congr 1
    omega
theorem hid_len (ks : List Nat) : ∀ (e : DEnv) (i : Nat), (hid ks i e).length = e.length
  | [], _ => rfl
  | s :: e, i => by unfold hid; rw [List.length_cons, List.length_cons, hid_len ks e]
theorem hs_slot {b : Bool} {s : Slot} {k : OK} {xs : List Dv} : hs b s = k.slot xs ↔ s = k.slot xs := by
  cases b
  · exact Iff.rfl
  · cases s with
    | dat d => exact ⟨fun h => (OK.nonon h.symm).elim, fun h => (OK.nodat h.symm).elim⟩
    | _ => exact Iff.rfl
theorem hs_dat {b : Bool} {s : Slot} {d : Dv} (h : hs b s = .dat d) : s = .dat d := by
  cases b
  · exact h
  · cases s with
    | dat x => cases h
    | _ => exact h
theorem hs_prv {b : Bool} {s : Slot} {d : Dv} (h : hs b s = .prv d) : s = .prv d := by
  cases b
  · exact h
  · cases s with
    | dat x => cases h
    | _ => exact h
section
variable {C : DC} {env e : DEnv} {σ σ' : L2.St} {H H1 : Hp} {ks : List Nat} {d : Dv} {v : V}
theorem hid_slot {i : Nat} {b : OK} {xs : List Dv} : (hid ks 0 env)[i]? = some (b.slot xs) ↔ env[i]? = some (b.slot xs) := by
  rw [hid_get]
  constructor
  · intro h
    obtain ⟨s, h1, h2⟩ := Option.map_eq_some_iff.mp h
    rw [h1, hs_slot.mp h2]
  · intro h
    rw [h, Option.map_some, hs_slot.mpr rfl]
theorem hid_w (a : Addr) : W (hid ks 0 env) σ a ↔ W env σ a := by
  constructor
  · rintro ⟨i, b, xs, h1, h2⟩
    exact ⟨i, b, xs, hid_slot.mp h1, h2⟩
  · rintro ⟨i, b, xs, h1, h2⟩
    exact ⟨i, b, xs, hid_slot.mpr h1, h2⟩
theorem imm_dats {M M' : Addr → Prop} {H H' : Hp} : ∀ {xs : List Dv} {vs : List V}, xs.all immB = true → Dats M H xs vs → Dats M' H' xs vs
  | [], vs, _, h => by unfold Dats at h ⊢; exact h
  | x :: xs, vs, hn, h => by
    unfold Dats at h ⊢
    rw [List.all_cons, Bool.and_eq_true] at hn
    obtain ⟨v, r, e, h1, h2⟩ := h
    exact ⟨v, r, e, imm_dat hn.1 h1, imm_dats hn.2 h2⟩
/-- the context in which all lists that stand are kept apart -/
def DC.shut (C : DC) (env : DEnv) (σ : L2.St) (H : Hp) : DC := { C with M0 := fun a => C.M0 a ∨ ((∃ vs, H a = some (.lst vs)) ∧ ¬ W env σ a), pvm := fun a h => ⟨.inl (C.pvm a h).1, (C.pvm a h).2⟩ }
theorem free_own {i : Nat} {b : OK} {xs : List Dv} (f : (hid ks 0 env).all slotFree = true) (e : env[i]? = some (b.slot xs)) : xs.all immB = true := by
  have := List.all_eq_true.mp f _ (List.mem_of_getElem? (hid_slot.mpr e))
  cases b <;> exact this
theorem noprv_get {i : Nat} (np : env.all noPrv = true) : env[i]? ≠ some (.prv d) := fun h => by
  have := List.all_eq_true.mp np _ (List.mem_of_getElem? h)
  cases this
theorem Rel.shut (R : Rel C env σ H) (f : (hid ks 0 env).all slotFree = true) (np : env.all noPrv = true) : Rel (C.shut env σ H) (hid ks 0 env) σ H where
  len := by rw [R.len, hid_len]
  dat := fun i d h => by
    have h' := h
    rw [hid_get] at h
    obtain ⟨s, h1, h2⟩ := Option.map_eq_some_iff.mp h
    rw [hs_dat h2] at h1
    obtain ⟨v, h3, h4⟩ := R.dat i d h1
    have nl : noL d = true := List.all_eq_true.mp f _ (List.mem_of_getElem? h')
    refine ⟨v, h3, noL_up (fun a z => ?_) _ _ nl h4⟩
    rcases z with (z | ⟨⟨vs, z⟩, _⟩) | z
    · exact .inl (.inl z)
    · exact .inr ⟨.lst false, vs, z⟩
    · exact .inl (.inr ((hid_w a).mp z))
  own := fun i b xs h => by
    obtain ⟨a, vs, h1, h2, h3⟩ := R.own i b xs (hid_slot.mp h)
    exact ⟨a, vs, h1, h2, imm_dats (free_own f (hid_slot.mp h)) h3⟩
  fit := fun i b xs h => R.fit i b xs (hid_slot.mp h)
  inj := fun i j b c xs ys a h1 h2 => R.inj i j b c xs ys a (hid_slot.mp h1) (hid_slot.mp h2)
  io := fun i xs h => R.io i xs (hid_slot (b := .lst true) |>.mp h)
  iob := fun i a h => by
    obtain ⟨h1, xs, h2, h3⟩ := R.iob i a h
    exact ⟨.inl h1, xs, hid_slot (b := .lst true) |>.mpr h2, h3⟩
  no := fun i b xs a nb h1 h2 => by
    have h1 := hid_slot.mp h1
    obtain ⟨h3, h4⟩ := R.no i b xs a nb h1 h2
    exact ⟨h3, fun z => z.elim h4 fun z => z.2 ⟨i, b, xs, h1, h2⟩⟩
  keep := R.keep
  mem := fun a z => z.elim (R.mem a) fun ⟨⟨vs, z⟩, _⟩ => by rw [z]; simp
  prv := fun i d h => by
    rw [hid_get] at h
    obtain ⟨s, h1, h2⟩ := Option.map_eq_some_iff.mp h
    rw [hs_prv h2] at h1
    exact (noprv_get np h1).elim
/-- some new lists are a slot's alone -/
def DC.priv (C : DC) (P : Addr → Prop) (hP : ∀ a, P a → (∀ i, C.io ≠ some (i, a)) ∧ C.H0 a = none) : DC :=
  { C with M0 := fun a => C.M0 a ∨ P a, pv := P, pvm := fun a h => ⟨.inr h, (hP a h).1, (hP a h).2⟩ }
def newL (H H1 : Hp) (a : Addr) : Prop := H a = none ∧ ∃ vs, H1 a = some (.lst vs)
theorem Rel.newOk (R : Rel C env σ H) : ∀ a, newL H H1 a → (∀ i, C.io ≠ some (i, a)) ∧ C.H0 a = none := fun a h => ⟨fun i e => R.mem a (R.iob i a e).1 h.1, R.h0 h.1⟩
theorem Rel.open (R : Rel C env σ H) (f : (hid ks 0 env).all slotFree = true) (np : env.all noPrv = true) (R1 : Rel (C.shut env σ H) (hid ks 0 env) σ H1) (g : Grow (hid ks 0 env) σ H H1) :
    Rel (C.priv (newL H H1) R.newOk) env σ H1 ∧ Grow env σ H H1 := by
  have g' : Grow env σ H H1 := fun a o n q => g a o (fun z => n ((hid_w a).mp z)) q
  have mm : ∀ a, MM (C.priv (newL H H1) R.newOk) env σ a → MM C env σ a ∨ H a = none := fun a z => by
    rcases z with (z | z) | z
    · exact .inl (.inl z)
    · exact .inr z.1
    · exact .inl (.inr z)
  refine ⟨?_, g'⟩
  exact {
    len := R.len
    dat := fun i d h => by
      obtain ⟨v, h1, h2⟩ := R.dat i d h
      exact ⟨v, h1, h2.to (fun a o n q => g' a o (fun z => n (.inr z)) q) mm⟩
    own := fun i b xs h => by
      obtain ⟨a, vs, h1, h2, h3⟩ := R1.own i b xs (hid_slot.mpr h)
      exact ⟨a, vs, h1, h2, imm_dats (free_own f h) h3⟩
    fit := R.fit
    inj := R.inj
    io := R.io
    iob := fun i a h => ⟨.inl (R.iob i a h).1, (R.iob i a h).2⟩
    no := fun i b xs a nb h1 h2 => by
      obtain ⟨h3, h4⟩ := R.no i b xs a nb h1 h2
      refine ⟨h3, fun z => z.elim h4 fun z => ?_⟩
      obtain ⟨a', vs, q1, q2, _⟩ := R.own i b xs h1
      rw [h2] at q1
      cases q1
      rw [z.1] at q2
      cases q2
    keep := fun a o n q => R1.keep a o n q
    mem := fun a z => by
      rcases z with z | z
      · exact R1.mem a (.inl z)
      · obtain ⟨_, vs, z⟩ := z
        rw [z]
        simp
    prv := fun i d h => (noprv_get np h).elim }
def pdB : Dv → Bool
  | .non => true
  | .bl _ => true
  | .int _ => true
  | .str _ => true
  | .lst ds => pdBs ds
  | .tup ds => pdBs ds
  | _ => false
where pdBs : List Dv → Bool
  | [] => true
  | d :: ds => pdB d && pdBs ds
mutual
theorem PD.of {M M' P : Addr → Prop} {H : Hp} (l : ∀ a vs, ¬ M a → H a = some (.lst vs) → ¬ M' a ∧ P a) (t : ∀ a vs, ¬ M a → H a = some (.tup vs) → ¬ M' a) : ∀ (d : Dv) (v : V), pdB d = true → Dat M H d v → PD M' P H d v
  | .non, _, _, h => by unfold Dat at h; unfold PD; exact h
  | .bl _, _, _, h => by unfold Dat at h; unfold PD; exact h
  | .int _, _, _, h => by unfold Dat at h; unfold PD; exact h
  | .str _, _, _, h => by unfold Dat at h; unfold PD; exact h
  | .lst ds, v, b, h => by
    unfold Dat at h
    unfold PD
    unfold pdB at b
    obtain ⟨a, vs, e, n, ha, hs⟩ := h
    obtain ⟨n', p⟩ := l a vs n ha
    exact ⟨a, vs, e, n', p, ha, PDs.of l t ds vs b hs⟩
  | .tup ds, v, b, h => by
    unfold Dat at h
    unfold PD
    unfold pdB at b
    obtain ⟨a, vs, e, n, ha, hs⟩ := h
    exact ⟨a, vs, e, t a vs n ha, ha, PDs.of l t ds vs b hs⟩
  | .ins _ _ _, _, b, _ => by unfold pdB at b; cases b
  | .ty _, _, b, _ => by unfold pdB at b; cases b
  | .cls _, _, b, _ => by unfold pdB at b; cases b
  | .anyS, _, b, _ => by unfold pdB at b; cases b
  | .dct _ _, _, b, _ => by unfold pdB at b; cases b
  | .exc _ _ _, _, b, _ => by unfold pdB at b; cases b
  | .scr _ _, _, b, _ => by unfold pdB at b; cases b
theorem PDs.of {M M' P : Addr → Prop} {H : Hp} (l : ∀ a vs, ¬ M a → H a = some (.lst vs) → ¬ M' a ∧ P a) (t : ∀ a vs, ¬ M a → H a = some (.tup vs) → ¬ M' a) : ∀ (ds : List Dv) (vs : List V), pdB.pdBs ds = true → Dats M H ds vs → PDs M' P H ds vs
  | [], _, _, h => by unfold Dats at h; unfold PDs; exact h
  | d :: ds, vs, b, h => by
    unfold Dats at h
    unfold PDs
    unfold pdB.pdBs at b
    rw [Bool.and_eq_true] at b
    obtain ⟨v, r, e, h1, h2⟩ := h
    exact ⟨v, r, e, PD.of l t d v b.1 h1, PDs.of l t ds r b.2 h2⟩
end
theorem Rel.openPD (R : Rel C env σ H) (f : (hid ks 0 env).all slotFree = true) (R1 : Rel (C.shut env σ H) (hid ks 0 env) σ H1) (g : Grow (hid ks 0 env) σ H H1) (b : pdB d = true) (hd : Dat (MM (C.shut env σ H) (hid ks 0 env) σ) H1 d v) :
    PD (NM (C.priv (newL H H1) R.newOk) env σ) (C.priv (newL H H1) R.newOk).pv H1 d v := by
  refine PD.of (fun a vs n ha => ?_) (fun a vs n ha => ?_) d v b hd
  · have hn : H a = none := by
      cases q : H a with
      | none => rfl
      | some o =>
        have nw : ¬ W (hid ks 0 env) σ a := fun z => n (.inr z)
        have := g a o nw q
        rw [ha] at this
        cases this
        exact (n (.inl (.inr ⟨⟨vs, q⟩, fun z => nw ((hid_w a).mpr z)⟩))).elim
    exact ⟨fun z => z.2 ⟨hn, vs, ha⟩, ⟨hn, vs, ha⟩⟩
  · rintro ⟨(z | z) | z, _⟩
    · exact n (.inl (.inl z))
    · obtain ⟨_, ws, z⟩ := z
      rw [ha] at z
      cases z
    · exact n (.inr ((hid_w a).mpr z))
theorem Rel.setPrv (R : Rel C env σ H) {i : Nat} (c : canSet env i = true) (hd : PD (NM C env σ) C.pv H d v) : Rel C (env.set i (.prv d)) (σ.set i (some v)) H ∧ ∀ a, W (env.set i (.prv d)) (σ.set i (some v)) a → W env σ a := by
  obtain ⟨s, es, ns⟩ := canSet_ok c
  have hi : i < env.length := (List.getElem?_eq_some_iff.mp es).1
  have hsi : i < σ.length := by rw [R.len]; exact hi
  have get : ∀ {j : Nat} {x : Slot}, (env.set i (.prv d))[j]? = some x → (j = i ∧ x = .prv d) ∨ (j ≠ i ∧ env[j]? = some x ∧ (σ.set i (some v))[j]? = σ[j]?) := fun {j x} q => by
    rw [set_get] at q
    by_cases h : i = j
    · rw [if_pos h, if_pos hi] at q
      exact .inl ⟨h.symm, (Option.some.inj q).symm⟩
    · rw [if_neg h] at q
      exact .inr ⟨fun z => h z.symm, q, List.getElem?_set_ne h⟩
  have own : ∀ {j : Nat} {b : OK} {xs : List Dv}, (env.set i (.prv d))[j]? = some (b.slot xs) → env[j]? = some (b.slot xs) ∧ (σ.set i (some v))[j]? = σ[j]? := fun {j b xs} q => by
    rcases get q with ⟨_, z⟩ | ⟨_, z⟩
    · exact (OK.noprv z).elim
    · exact z
  have w : ∀ a, W (env.set i (.prv d)) (σ.set i (some v)) a → W env σ a := fun a ⟨j, b, xs, h1, h2⟩ => by
    obtain ⟨h3, h4⟩ := own h1
    exact ⟨j, b, xs, h3, by rw [← h4]; exact h2⟩
  have m : ∀ a, MM C (env.set i (.prv d)) (σ.set i (some v)) a → MM C env σ a := fun a z => z.imp id (w a)
  refine ⟨?_, w⟩
  exact {
    len := by rw [List.length_set, List.length_set]; exact R.len
    dat := fun j x q => by
      rcases get q with ⟨_, z⟩ | ⟨_, z, h4⟩
      · cases z
      · obtain ⟨u, h1, h2⟩ := R.dat j x z
        exact ⟨u, by rw [h4]; exact h1, h2.to (fun _ _ _ q => q) fun a z => .inl (m a z)⟩
    own := fun j b xs q => by
      obtain ⟨h3, h4⟩ := own q
      obtain ⟨a, vs, h5, h6, h7⟩ := R.own j b xs h3
      exact ⟨a, vs, by rw [h4]; exact h5, h6, Dats.to (fun _ _ _ q => q) (fun a z => .inl (m a z)) _ _ h7⟩
    fit := fun j b xs q => R.fit j b xs (own q).1
    inj := fun j k b c xs ys a q1 q2 h1 h2 => R.inj j k b c xs ys a (own q1).1 (own q2).1 (by rw [← (own q1).2]; exact h1) (by rw [← (own q2).2]; exact h2)
    io := fun j xs q => R.io j xs (own (b := .lst true) q).1
    iob := fun j a q => by
      obtain ⟨h1, xs, h2, h3⟩ := R.iob j a q
      have n : i ≠ j := fun z => by
        subst z
        rw [es] at h2
        exact ns xs (Option.some.inj h2)
      exact ⟨h1, xs, by rw [set_get, if_neg n]; exact h2, by rw [set_get, if_neg n]; exact h3⟩
    no := fun j b xs a nb q h1 => R.no j b xs a nb (own q).1 (by rw [← (own q).2]; exact h1)
    keep := R.keep
    mem := R.mem
    prv := fun j x q => by
      rcases get q with ⟨z1, z2⟩ | ⟨_, z, h4⟩
      · cases z2
        subst z1
        exact ⟨v, by rw [set_get, if_pos rfl, if_pos hsi], PD.to (fun _ _ _ q => q) (fun a z => .inl ⟨m a z.1, z.2⟩) (fun _ z => z) _ _ hd⟩
      · obtain ⟨u, h1, h2⟩ := R.prv j x z
        exact ⟨u, by rw [h4]; exact h1, PD.to (fun _ _ _ q => q) (fun a z => .inl ⟨m a z.1, z.2⟩) (fun _ z => z) _ _ h2⟩ }
def dropS : Slot → Slot
  | .prv _ => .non
  | s => s
def dropP (e : DEnv) : DEnv := e.map dropS
theorem dropS_slot {s : Slot} {k : OK} {xs : List Dv} : dropS s = k.slot xs ↔ s = k.slot xs := by
  cases s with
  | prv d => exact ⟨fun h => (OK.nonon h.symm).elim, fun h => (OK.noprv h.symm).elim⟩
  | _ => exact Iff.rfl
theorem drop_slot {i : Nat} {b : OK} {xs : List Dv} : (dropP e)[i]? = some (b.slot xs) ↔ e[i]? = some (b.slot xs) := by
  unfold dropP
  rw [List.getElem?_map]
  constructor
  · intro h
    obtain ⟨s, h1, h2⟩ := Option.map_eq_some_iff.mp h
    rw [h1, dropS_slot.mp h2]
  · intro h
    rw [h, Option.map_some, dropS_slot.mpr rfl]
theorem drop_w (a : Addr) : W (dropP e) σ a ↔ W e σ a := by
  constructor
  · rintro ⟨i, b, xs, h1, h2⟩
    exact ⟨i, b, xs, drop_slot.mp h1, h2⟩
  · rintro ⟨i, b, xs, h1, h2⟩
    exact ⟨i, b, xs, drop_slot.mpr h1, h2⟩
theorem Rel.close {P : Addr → Prop} {hP : ∀ a, P a → (∀ i, C.io ≠ some (i, a)) ∧ C.H0 a = none} (hio : ∀ i a, C.io = some (i, a) → C.M0 a) (R : Rel (C.priv P hP) e σ H) : Rel C (dropP e) σ H ∧ ∀ a, MM C (dropP e) σ a → MM (C.priv P hP) e σ a := by
  have m : ∀ a, MM C (dropP e) σ a → MM (C.priv P hP) e σ a := fun a z => z.imp .inl (drop_w a).mp
  refine ⟨?_, m⟩
  exact {
    len := by unfold dropP; rw [R.len, List.length_map]
    dat := fun i d h => by
      unfold dropP at h
      rw [List.getElem?_map] at h
      obtain ⟨s, h1, h2⟩ := Option.map_eq_some_iff.mp h
      have h2 : s = .dat d := by cases s <;> first | exact h2 | cases h2
      rw [h2] at h1
      obtain ⟨v, h3, h4⟩ := R.dat i d h1
      exact ⟨v, h3, h4.to (fun _ _ _ q => q) fun a z => .inl (m a z)⟩
    own := fun i b xs h => by
      obtain ⟨a, vs, h1, h2, h3⟩ := R.own i b xs (drop_slot.mp h)
      exact ⟨a, vs, h1, h2, Dats.to (fun _ _ _ q => q) (fun a z => .inl (m a z)) _ _ h3⟩
    fit := fun i b xs h => R.fit i b xs (drop_slot.mp h)
    inj := fun i j b c xs ys a h1 h2 => R.inj i j b c xs ys a (drop_slot.mp h1) (drop_slot.mp h2)
    io := fun i xs h => R.io i xs (drop_slot (b := .lst true) |>.mp h)
    iob := fun i a h => by
      obtain ⟨_, xs, h2, h3⟩ := R.iob i a h
      exact ⟨hio i a h, xs, drop_slot (b := .lst true) |>.mpr h2, h3⟩
    no := fun i b xs a nb h1 h2 => by
      obtain ⟨h3, h4⟩ := R.no i b xs a nb (drop_slot.mp h1) h2
      exact ⟨h3, fun z => h4 (.inl z)⟩
    keep := R.keep
    mem := fun a z => R.mem a (.inl z)
    prv := fun i d h => by
      unfold dropP at h
      rw [List.getElem?_map] at h
      obtain ⟨s, _, h2⟩ := Option.map_eq_some_iff.mp h
      cases s <;> cases h2 }
/-- such a list gets another content, where no slot tells of it -/
theorem Rel.spoil (R : Rel C env σ H) (np : env.all noPrv = true) {p : Addr} (hp : C.pv p) (o : HO) : Rel C env σ (upd H p o) := by
  have nw := R.pvW hp
  have nm : ∀ a, ¬ MM C env σ a → a ≠ p := fun a n z => n (by rw [z]; exact .inl (C.pvm p hp).1)
  exact {
    len := R.len
    dat := fun i d h => by
      obtain ⟨v, h1, h2⟩ := R.dat i d h
      exact ⟨v, h1, h2.to (fun a o n q => by rw [upd_ne (nm a n)]; exact q) fun a z => .inl z⟩
    own := fun i b xs h => by
      obtain ⟨a, vs, h1, h2, h3⟩ := R.own i b xs h
      have na : a ≠ p := fun z => nw (z ▸ ⟨i, b, xs, h, h1⟩)
      exact ⟨a, vs, h1, by rw [upd_ne na]; exact h2, Dats.to (fun a o n q => by rw [upd_ne (nm a n)]; exact q) (fun a z => .inl z) _ _ h3⟩
    fit := R.fit
    inj := R.inj
    io := R.io
    iob := R.iob
    no := R.no
    keep := fun a u n q => by
      have na : a ≠ p := fun z => by
        rw [z, (C.pvm p hp).2.2] at q
        cases q
      rw [upd_ne na]
      exact R.keep a u n q
    mem := fun a z => by
      by_cases e : a = p
      · rw [e, upd_same]
        simp
      · rw [upd_ne e]
        exact R.mem a z
    prv := fun i d h => (noprv_get np h).elim }
end
end DL

set_option Elab.async false
set_option linter.all false
set_option maxRecDepth 100000
set_option maxHeartbeats 4000000
namespace DL
open PySem L2 PyProof.Rows
def dropO : Out → Out
  | .nx e => .nx (dropP e)
  | .bk e => .bk (dropP e)
  | .ct e => .ct (dropP e)
  | .rt d e => .rt d (dropP e)
section
variable {C : DC} {env e : DEnv} {σ : L2.St} {H : Hp} {D : Ends}
theorem post_close {P : Addr → Prop} {hP : ∀ a, P a → (∀ i, C.io ≠ some (i, a)) ∧ C.H0 a = none} (hio : ∀ i a, C.io = some (i, a) → C.M0 a) {o : Out} (k : Post C D (dropO o)) : Post (C.priv P hP) D o := by
  cases o with
  | nx e => exact fun σ H R => k σ H (R.close hio).1
  | bk e => exact fun σ H R => k σ H (R.close hio).1
  | ct e => exact fun σ H R => k σ H (R.close hio).1
  | rt d e => exact fun σ H v R hd => k σ H v (R.close hio).1 (hd.to (fun _ _ _ q => q) fun a z => .inl ((R.close hio).2 a z))
def brkOK (ks : List Nat) (env : DEnv) : Bool := (hid ks 0 env).all slotFree && env.all noPrv
open Classical in
/-- what is new, where no list is read -/
noncomputable def fPrv (ks : List Nat) (fa : EF) : DEnv → Option Dv := fun env => if brkOK ks env = true then match fa (hid ks 0 env) with
  | some (.d d, e') => if e' = hid ks 0 env ∧ pdB d = true then some d else none
  | _ => none else none
theorem fPrv_of {ks : List Nat} {fa : EF} {env : DEnv} {d : Dv} (h1 : brkOK ks env = true) (h2 : fa (hid ks 0 env) = some (.d d, hid ks 0 env)) (h3 : pdB d = true) : fPrv ks fa env = some d := by
  unfold fPrv
  rw [if_pos h1, h2]
  simp only [h3, and_self, if_true]
theorem prv_ok {ks : List Nat} {ta : TE} {fa : EF} {d : Dv} (he : RE ta fa) (h : fPrv ks fa env = some d) (R : Rel C env σ H) {Q : VK}
    (k : ∀ P hP v H1, Rel (C.priv P hP) env σ H1 → PD (NM (C.priv P hP) env σ) (C.priv P hP).pv H1 d v → Q v H1) : ta σ H Q := by
  unfold fPrv at h
  split at h
  case isFalse => cases h
  rename_i hb
  unfold brkOK at hb
  rw [Bool.and_eq_true] at hb
  split at h
  case h_2 => cases h
  rename_i d' e' hf
  split at h
  case isFalse => cases h
  rename_i hc
  cases h
  obtain ⟨rfl, pb⟩ := hc
  refine he (C.shut env σ H) (hid ks 0 env) σ H _ _ _ hf (R.shut hb.1 hb.2) fun v H1 R1 s1 g1 r1 => ?_
  exact k _ _ v H1 (R.open hb.1 hb.2 R1 g1).1 (R.openPD hb.1 R1 g1 pb r1)
/-- x = f(..), and what follows in the block: what x has is x's alone -/
noncomputable def sBrk (ks : List Nat) (i : Nat) (fa : EF) (g : SF) : SF := fun env => (fPrv ks fa env).bind fun d => if canSet env i = true then (g (env.set i (.prv d))).map dropO else none
theorem rs_brk {ks : List Nat} {i : Nat} {ta : TE} {fa : EF} {u : TS} {g : SF} (ha : RE ta fa) (hg : RS u g) : RS (tSeq (tAsg ta (gName i)) u) (sBrk ks i fa g) := fun C env σ H D o h R k => by
  unfold sBrk at h
  obtain ⟨d, h1, h⟩ := Option.bind_eq_some_iff.mp h
  split at h
  case isFalse => cases h
  rename_i hc
  obtain ⟨o', h2, h⟩ := Option.map_eq_some_iff.mp h
  subst h
  refine prv_ok ha h1 R fun P hP v H1 R1 p1 => ?_
  exact hg _ _ _ H1 D o' h2 (R1.setPrv hc p1).1 (post_close R.hio k)
/-- x, y = f(..), g(..), and what follows in the block: what x has is x's alone -/
noncomputable def sBrkPar (ks : List Nat) (i j : Nat) (fa fb : EF) (g : SF) : SF := fun env => (fPrv ks fa env).bind fun d => (fb env).bind fun q => (frz q.2 q.1).bind fun y => if canSet y.2 i = true then (fName j y.1 (y.2.set i (.prv d))).bind fun e2 => (g e2).map dropO else none
theorem rs_brkPar {ks : List Nat} {i j : Nat} {ta tb : TE} {fa fb : EF} {u : TS} {g : SF} (ha : RE ta fa) (hb : RE tb fb) (hg : RS u g) : RS (tSeq (tPar i j (tCons ta (tCons tb tNil))) u) (sBrkPar ks i j fa fb g) := fun C env σ H D o h R k => by
  unfold sBrkPar at h
  obtain ⟨d, h1, h⟩ := Option.bind_eq_some_iff.mp h
  obtain ⟨⟨y, e2⟩, h2, h⟩ := Option.bind_eq_some_iff.mp h
  obtain ⟨⟨dy, e3⟩, h3, h⟩ := Option.bind_eq_some_iff.mp h
  split at h
  case isFalse => cases h
  rename_i hc
  obtain ⟨e5, h5, h⟩ := Option.bind_eq_some_iff.mp h
  obtain ⟨o', h6, h⟩ := Option.map_eq_some_iff.mp h
  subst h
  refine prv_ok ha h1 R fun P hP v H1 R1 p1 => ?_
  refine hb _ env σ H1 _ y e2 h2 R1 fun w H2 R2 s2 g2 r2 => ?_
  obtain ⟨R3, s3, d3⟩ := frz_ok R2 r2 h3
  have p3 : PD (NM (C.priv P hP) e3 σ) (C.priv P hP).pv H2 d v := PD.to (fun a o n q => g2 a o (R1.nmW n) q) (fun a z => .inl ⟨(s2.trans s3).mm z.1, z.2⟩) (fun _ z => z) _ _ p1
  obtain ⟨R4, w4⟩ := R3.setPrv hc p3
  refine ⟨v, w, rfl, ?_⟩
  refine rg_name (C.priv P hP) _ _ H2 dy w (fun σ' H' => u D σ' H') e5 h5 R4 (d3.to (fun _ _ _ q => q) fun a z => .inl (z.imp id (w4 a))) fun σ5 R5 _ _ _ _ => ?_
  exact hg _ e5 σ5 H2 D o' h6 R5 (post_close R.hio k)
theorem Rel.kill (R : Rel C env σ H) {i : Nat} (h : canSet env i = true) : Rel C (env.set i .non) σ H := by
  obtain ⟨s, es, _⟩ := canSet_ok h
  have hi : i < σ.length := by rw [R.len]; exact (List.getElem?_eq_some_iff.mp es).1
  have := R.void (x := σ[i]) h
  rwa [List.set_getElem_self] at this
theorem imm_noref {M : Addr → Prop} {H : Hp} : ∀ {es : List Dv} {ws : List V}, es.all immB = true → Dats M H es ws → ∀ x ∈ ws, ∀ p, x ≠ .ref p
  | [], ws, _, h, x, hx, _ => by
    unfold Dats at h
    subst h
    cases hx
  | d :: es, ws, hn, h, x, hx, p => by
    unfold Dats at h
    rw [List.all_cons, Bool.and_eq_true] at hn
    obtain ⟨v, r, rfl, h1, h2⟩ := h
    rcases List.mem_cons.mp hx with rfl | hx
    · intro z
      subst z
      have h0 := hn.1
      unfold immB at h0
      split at h0 <;> first | (unfold Dat at h1; cases h1) | cases h0
    · exact imm_noref hn.2 h2 x hx p
def spoilB (n : Nat) : Dv → Bool
  | .lst es => es.all immB && decide (es.length + n < szL)
  | _ => false
theorem spoil_inner {M P : Addr → Prop} {H : Hp} {n : Nat} : ∀ {ds : List Dv} {vs : List V}, PDs M P H ds vs → ds.all (spoilB n) = true → ∀ x ∈ vs, ∃ p ws, x = V.ref p ∧ P p ∧ H p = some (.lst ws) ∧ ws.length + n < szL ∧ ∀ y ∈ ws, ∀ q, y ≠ .ref q
  | [], vs, h, _, x, hx => by
    unfold PDs at h
    subst h
    cases hx
  | d :: ds, vs, h, hn, x, hx => by
    unfold PDs at h
    rw [List.all_cons, Bool.and_eq_true] at hn
    obtain ⟨v, r, rfl, h1, h2⟩ := h
    rcases List.mem_cons.mp hx with rfl | hx
    · have h0 := hn.1
      unfold spoilB at h0
      split at h0
      case h_2 => cases h0
      rename_i es
      rw [Bool.and_eq_true] at h0
      unfold PD at h1
      obtain ⟨a, ws, e, _, p, ha, hs⟩ := h1
      have hd := PDs.toDat _ _ hs
      exact ⟨a, ws, e, p, ha, by rw [hd.length]; exact of_decide_eq_true h0.2, imm_noref h0.1 hd⟩
    · exact spoil_inner h2 hn.2 x hx
/-- for p in x: p.append(c), then x.append(e): x is given up -/
noncomputable def sSpoil2 (i j : Nat) (fe : EF) : SF := fun env => match env[i]? with
  | some (.prv (.lst ds)) => if ds.all (spoilB ds.length) = true ∧ ds.length < szL ∧ i ≠ j ∧ canSet env j = true ∧ ((env.set i .non).set j .non).all noPrv = true then
      match fe ((env.set i .non).set j .non) with
      | some (_, e') => if e'.all noPrv = true then some (.nx e') else none
      | none => none
    else none
  | _ => none
theorem rs_spoil2 {K : PySem.W.Frag} {i j : Nat} {tc te : TE} {c : Int} {fe : EF} (hc : RE tc (fC (.int c))) (he : RE te fe) :
    RS (tSeq (tFor (iSeq K (tVar i)) (gName j) (tDrop (tBM K "list" rAppend (tVar j) (tCons tc tNil)))) (tDrop (tBM K "list" rAppend (tVar i) (tCons te tNil)))) (sSpoil2 i j fe) := fun C env σ H D o h R k => by
  unfold sSpoil2 at h
  split at h
  case h_2 => cases h
  rename_i ds ei
  split at h
  case isFalse => cases h
  rename_i hh
  obtain ⟨hds, hl, nij, cj, np⟩ := hh
  split at h
  case h_2 => cases h
  rename_i rv e' hf
  split at h
  case isFalse => cases h
  rename_i np'
  cases h
  obtain ⟨v, hv, hp⟩ := R.prv i _ ei
  unfold PD at hp
  obtain ⟨a, vs, rfl, na, pa, ha, hs⟩ := hp
  have ci : canSet env i = true := by unfold canSet; rw [ei]
  have cj' : canSet (env.set i .non) j = true := by
    unfold canSet at cj ⊢
    rw [List.getElem?_set_ne nij]
    exact cj
  have R0 : Rel C ((env.set i .non).set j .non) σ H := (R.kill ci).kill cj'
  have hi : i < σ.length := (List.getElem?_eq_some_iff.mp hv).1
  generalize hE : ((env.set i .non).set j .non) = E at R0 np hf
  have hj : j < env.length := by
    obtain ⟨s, es, _⟩ := canSet_ok cj
    exact (List.getElem?_eq_some_iff.mp es).1
  have Ej : E[j]? = some .non := by rw [← hE, List.getElem?_set_self (by rw [List.length_set]; exact hj)]
  have cE : canSet E j = true := by unfold canSet; rw [Ej]
  have EE : E.set j .non = E := by rw [← hE, List.set_set]
  have inner := spoil_inner hs hds
  have lv : vs.length = ds.length := (PDs.toDat _ _ hs).length
  have nep : ∀ x ∈ vs, ∀ p ws, x = V.ref p → H p = some (.lst ws) → (∀ y ∈ ws, ∀ q, y ≠ V.ref q) → p ≠ a := fun x hx p ws e hp hn z => by
    subst z
    rw [ha] at hp
    cases hp
    exact hn x hx p e
  refine ⟨.ref a, hv, a, rfl, .inl ⟨⟨vs, SqL.of ha⟩, ?_⟩⟩
  refine for_it (walk_list (K := K) (a := a) (xs := vs)) (fun k σ' H' => Rel C E σ' H' ∧ σ'[i]? = some (some (.ref a)) ∧ H' a = some (.lst vs) ∧ ∀ x ∈ vs, ∃ p ws, x = V.ref p ∧ C.pv p ∧ p ≠ a ∧ H' p = some (.lst ws) ∧ ws.length + (ds.length - k) < szL)
    ⟨R0, hv, ha, fun x hx => ?_⟩ (fun k σ' H' _ h => SqL.of h.2.2.1) (fun k x σ' H' H'' hk ⟨R1, q1, q2, q3⟩ hy => ?_) fun σ' H' ⟨R1, q1, q2, q3⟩ => ?_
  · obtain ⟨p, ws, e, pp, hp, hl, hn⟩ := inner x hx
    exact ⟨p, ws, e, pp, nep x hx p ws e hp hn, hp, by omega⟩
  · obtain ⟨rfl, hx⟩ := hy
    obtain ⟨p, ws, rfl, pp, npa, hp, hlw⟩ := q3 x (List.mem_of_getElem? hx)
    have R2 : Rel C E (σ'.set j (some (.ref p))) H'' := by
      have := R1.void (x := some (.ref p)) cE
      rwa [EE] at this
    have hj' : j < σ'.length := by
      rw [R1.len]
      exact (List.getElem?_eq_some_iff.mp Ej).1
    refine ⟨.ref p, by rw [List.getElem?_set_self hj'], .inl ⟨rfl, ws, SqL.of hp⟩, ?_⟩
    refine hc C E _ H'' _ _ _ rfl R2 fun v H3 R3 s3 g3 r3 => ?_
    have hp3 : H3 p = some (.lst ws) := g3 p _ (R2.pvW pp) hp
    refine ⟨p, ws, v, rfl, rfl, hp3, szL_lt (by omega), ?_⟩
    refine ⟨R3.spoil np pp _, by rw [List.getElem?_set_ne (fun z => nij z.symm)]; exact q1, ?_, fun x hx => ?_⟩
    · rw [upd_ne (fun z => npa z.symm)]
      exact g3 a _ (R2.pvW pa) q2
    · obtain ⟨p', ws', e', pp', npa', hp', hlw'⟩ := q3 x hx
      by_cases z : p' = p
      · subst z
        rw [hp] at hp'
        cases hp'
        refine ⟨p', ws ++ [v], e', pp', npa', upd_same, ?_⟩
        rw [List.length_append, List.length_singleton]
        omega
      · refine ⟨p', ws', e', pp', npa', ?_, by omega⟩
        rw [upd_ne z]
        exact g3 p' _ (R2.pvW pp') hp'
  · refine ⟨.ref a, q1, .inl ⟨rfl, vs, SqL.of q2⟩, ?_⟩
    refine he C E σ' H' _ rv e' hf R1 fun v H3 R3 s3 g3 r3 => ?_
    have ha3 : H3 a = some (.lst vs) := g3 a _ (R1.pvW pa) q2
    refine ⟨a, vs, v, rfl, rfl, ha3, szL_lt (by omega), ?_⟩
    exact k σ' _ (R3.spoil np' pa _)
end
end DL

set_option Elab.async false
set_option linter.all false
set_option maxRecDepth 100000
set_option maxHeartbeats 4000000
/-! Defs that return a new tuple, whose first item is a new list of plain values. -/
namespace DL
open PySem L2 PyProof.Rows
abbrev NF := DEnv → Option (List Dv × List Dv × DEnv)
/-- the tuple T with the list p -/
structure NewT (H' : Hp) (T p : Addr) (xs es : List Dv) : Prop where
  tup : ∃ us, H' T = some (.tup (.ref p :: us)) ∧ Dats (fun _ => False) H' es us
  lst : ∃ ws, H' p = some (.lst ws) ∧ Dats (fun _ => False) H' xs ws
  ix : xs.all immB = true
  ie : es.all immB = true
def spT (n : Nat) (F : List Dv → Option (List Dv × List Dv)) : Sp := fun vs H Q _ => ∃ (M : Addr → Prop) (ds xs es : List Dv), F ds = some (xs, es) ∧ vs.length = n ∧ Dats M H ds vs ∧ (∀ a, M a → H a ≠ none) ∧
  ∀ T p H', H p = none → ¬ M T → NewT H' T p xs es → (∀ a o, H a = some o → H' a = some o) → Q (.ref T) H'
theorem spT_len {n : Nat} {F : List Dv → Option (List Dv × List Dv)} {vs : List V} {H : Hp} {Q : VK} {E : XK} (h : spT n F vs H Q E) : vs.length = n := by
  obtain ⟨_, _, _, _, _, h, _⟩ := h
  exact h
def RST (t : TS) (f : DEnv → Option (List Dv × List Dv)) : Prop := ∀ (C : DC) (env : DEnv) (σ : L2.St) (H : Hp) (D : Ends) (xs es : List Dv), f env = some (xs, es) → Rel C env σ H →
  (∀ T p H', C.H0 p = none → ¬ C.M0 T → NewT H' T p xs es → (∀ a o, (∀ i, C.io ≠ some (i, a)) → C.H0 a = some o → H' a = some o) → D.rt (.ref T) H') → t D σ H
/-- an expression that gives such a tuple -/
def RFT (t : TE) (f : NF) : Prop := ∀ (C : DC) (env : DEnv) (σ : L2.St) (H : Hp) (Q : VK) (xs es : List Dv) (env' : DEnv), f env = some (xs, es, env') → Rel C env σ H →
  (∀ T p Hm H', Rel C env' σ Hm → Sh env env' → Grow env σ H Hm → Hm p = none → (∀ a o, Hm a = some o → H' a = some o) → ¬ C.M0 T → NewT H' T p xs es → Q (.ref T) H') → t σ H Q
def fThenT (g : SF) (f : DEnv → Option (List Dv × List Dv)) : DEnv → Option (List Dv × List Dv) := fun env => (g env).bind fun o => match o with
  | .nx e => f e
  | _ => none
theorem rst_seq {t u : TS} {g : SF} {f : DEnv → Option (List Dv × List Dv)} (h : RS t g) (hu : RST u f) : RST (tSeq t u) (fThenT g f) := fun C env σ H D xs es e R k => by
  unfold fThenT at e
  obtain ⟨o, h1, e⟩ := Option.bind_eq_some_iff.mp e
  cases o with
  | nx e1 => exact h C env σ H _ _ h1 R fun σ1 H1 R1 => hu C e1 σ1 H1 D xs es e R1 k
  | bk e1 => cases e
  | ct e1 => cases e
  | rt d e1 => cases e
theorem imm_low {M : Addr → Prop} {H H' : Hp} {xs : List Dv} {vs : List V} (h : xs.all immB = true) (d : Dats M H xs vs) : Dats (fun _ => False) H' xs vs := imm_dats h d
/-- return (list, ..) -/
def fTupT (fl : LF) (fa : AF) : DEnv → Option (List Dv × List Dv) := fun env => (fl env).bind fun p => (fa p.2).bind fun q => (frzs q.2 q.1).bind fun r => if p.1.all immB = true ∧ r.1.all immB = true ∧ r.1.length < szL then some (p.1, r.1) else none
theorem rst_tup {tl : TE} {ta : TA} {fl : LF} {fa : AF} (hl : RL tl fl) (ha : RA ta fa) : RST (tRet (tTup (tCons tl ta))) (fTupT fl fa) := fun C env σ H D xs es h R k => by
  unfold fTupT at h
  obtain ⟨⟨ys, e1⟩, h1, h⟩ := Option.bind_eq_some_iff.mp h
  obtain ⟨⟨rs, e2⟩, h2, h⟩ := Option.bind_eq_some_iff.mp h
  obtain ⟨⟨ds, e3⟩, h3, h⟩ := Option.bind_eq_some_iff.mp h
  split at h
  case isFalse => cases h
  rename_i hc
  cases h
  obtain ⟨ix, ie, hz⟩ := hc
  refine hl C env σ H _ _ e1 h1 R fun p ws H1 _ h0 hm R1 s1 g1 hp hs => ?_
  refine ha (C.plus p) e1 σ H1 _ rs e2 h2 R1 fun vs H2 R2 s2 g2 r2 => ?_
  obtain ⟨R3, s3, d3⟩ := frzs_ok R2 r2 h3
  refine ⟨by rw [List.length_cons, d3.length]; exact szL_le hz, fun T nT => ?_⟩
  have nw : ¬ W e1 σ p := R1.notW hm R.hio
  have hp2 : H2 p = some (.lst ws) := g2 p _ nw hp
  have hpT : p ≠ T := fun z => by rw [z, nT] at hp2; cases hp2
  refine k T p _ h0 (fun z => R2.mem T (.inl z) nT) ⟨⟨vs, upd_same, imm_low ie d3⟩, ⟨ws, by rw [upd_ne hpT]; exact hp2, imm_low ix hs⟩, ix, ie⟩ fun a o n q => ?_
  have q2 := R2.keep a o n q
  have na : a ≠ T := fun z => by rw [z, nT] at q2; cases q2
  rw [upd_ne na]
  exact q2
/-- a call of such a def; lists that are handed in are only looked at -/
def fCallT (n : Nat) (F : List Dv → Option (List Dv × List Dv)) (fa : AF) : NF := fun env => (fa env).bind fun p => (lents p.2 p.1).bind fun ds => if ds.length = n then (F ds).map fun r => (r.1, r.2, p.2) else none
section
variable {n : Nat} {F : List Dv → Option (List Dv × List Dv)} {E : XK} {ta : TA} {fa : AF}
theorem rft_call (ha : RA ta fa) : RFT (tCall (spT n F) [] E ta) (fCallT n F fa) := fun C env σ H Q xs es env' h R k => by
  unfold fCallT at h
  obtain ⟨⟨rs, e1⟩, h1, h⟩ := Option.bind_eq_some_iff.mp h
  obtain ⟨ds, h2, h⟩ := Option.bind_eq_some_iff.mp h
  split at h
  case isFalse => cases h
  rename_i hn
  obtain ⟨⟨a, b⟩, h3, h⟩ := Option.map_eq_some_iff.mp h
  cases h
  refine ha C env σ H _ rs e1 h1 R fun vs H1 R1 s1 g1 r1 => ?_
  rw [List.append_nil]
  have d2 := lents_ok R1 r1 h2
  exact ⟨C.M0, ds, _, _, h3, by rw [d2.length]; exact hn, d2, fun a q => R1.mem a q, fun T p H' np nT nt kp => k T p H1 H' R1 s1 g1 np kp nT nt⟩
theorem rst_ret {te : TE} {f : NF} (h : RFT te f) : RST (tRet te) (fun env => (f env).map fun p => (p.1, p.2.1)) := fun C env σ H D xs es e R k => by
  obtain ⟨⟨a, b, e1⟩, h1, e⟩ := Option.map_eq_some_iff.mp e
  cases e
  exact h C env σ H _ _ _ e1 h1 R fun T p Hm H' R1 s1 g1 np kp nT nt => k T p H' (R1.h0 np) nT nt fun a o n q => kp a o (R1.keep a o n q)
end
def runT (n : Nat) (f : DEnv → Option (List Dv × List Dv)) (ds : List Dv) : Option (List Dv × List Dv) := f (ds.map .dat ++ List.replicate (n - ds.length) .non)
theorem body_okT {t : TS} {f : DEnv → Option (List Dv × List Dv)} {N ps : List Str} (hN : ps.length ≤ N.length) (hg : RST t f) {vs : List V} {H : Hp} {Q : VK} {E : XK} (h : spT ps.length (runT N.length f) vs H Q E) :
    t { nx := fun _ H' => Q .non H', rt := Q } (L2.start N vs) H := by
  obtain ⟨M, ds, xs, es, hF, hl, hd, hm, q⟩ := h
  unfold runT at hF
  have hlen : ds.length = ps.length := by rw [← hd.length, hl]
  have no : ∀ (i : Nat) (b : OK) xs, (ds.map Slot.dat ++ List.replicate (N.length - ds.length) Slot.non)[i]? ≠ some (b.slot xs) := fun i b xs z => by
    have z := pad_getK z
    obtain ⟨d, z1, _⟩ := map_dat_get z
    exact OK.nodat z1
  have R : Rel { M0 := M, H0 := H, io := none } (ds.map .dat ++ List.replicate (N.length - ds.length) .non) (L2.start N vs) H := by
    refine ⟨?_, fun i d z => ?_, fun i b xs z => (no i b xs z).elim, fun i b xs z => (no i b xs z).elim, fun i j b c xs zs a z1 z2 y1 y2 => (no i b xs z1).elim, fun i xs z => (no i (.lst true) xs z).elim, fun i a z => (by cases z), fun i b xs a _ z1 z2 => (no i b xs z1).elim, fun a o _ z => z, fun a z => hm a z, fun i d z => absurd (pad_get (by intro z; cases z) z) (nop_map i d)⟩
    · rw [List.length_append, List.length_replicate, List.length_map]
      unfold L2.start
      rw [List.length_append, List.length_map, List.length_replicate, hd.length]
    · obtain ⟨d', z1, z2⟩ := map_dat_get (pad_get (by intro z; cases z) z)
      cases z1
      obtain ⟨v, y1, y2⟩ := hd.get z2
      refine ⟨v, ?_, y2.to (fun _ _ _ q => q) fun a z => ?_⟩
      · rw [start_get, if_pos (List.getElem?_eq_some_iff.mp y1).1, y1]
        rfl
      · rcases z with z | ⟨i, b, xs, z1, _⟩
        · exact .inl z
        · exact (no i b xs z1).elim
  exact hg _ _ _ H _ _ _ hF R fun T p H' h0 nT nt kp => q T p H' h0 nT nt fun a o z => kp a o (fun i y => by cases y) z
/-! ### what the caller does with it -/
section
variable {C : DC} {env : DEnv} {σ : L2.St} {Hm H' : Hp} {T p : Addr} {xs es : List Dv}
theorem NewT.ne (nt : NewT H' T p xs es) : T ≠ p := fun z => by
  obtain ⟨us, h1, _⟩ := nt.tup
  obtain ⟨ws, h2, _⟩ := nt.lst
  rw [z, h2] at h1
  cases h1
theorem NewT.nW (R : Rel C env σ H') (nt : NewT H' T p xs es) : ¬ W env σ T := by
  rintro ⟨i, b, ys, h1, h2⟩
  obtain ⟨a, vs, h3, h4, _⟩ := R.own i b ys h1
  rw [h2] at h3
  cases h3
  obtain ⟨us, h5, _⟩ := nt.tup
  rw [h5] at h4
  cases b <;> cases h4
/-- as plain data -/
theorem NewT.dat (R : Rel C env σ Hm) (np : Hm p = none) (kp : ∀ a o, Hm a = some o → H' a = some o) (nT : ¬ C.M0 T) (nt : NewT H' T p xs es) : Dat (MM C env σ) H' (.tup (.lst xs :: es)) (.ref T) := by
  have R' := R.grow kp
  have nw := nt.nW R'
  obtain ⟨us, h1, d1⟩ := nt.tup
  obtain ⟨ws, h2, d2⟩ := nt.lst
  unfold Dat
  refine ⟨T, _, rfl, fun z => z.elim nT nw, h1, .cons ?_ (imm_dats nt.ie d1)⟩
  unfold Dat
  exact ⟨p, ws, rfl, R.fresh np, h2, imm_dats nt.ix d2⟩
theorem imm_pd {M P : Addr → Prop} {H H' : Hp} {M0 : Addr → Prop} : ∀ {ds : List Dv} {vs : List V}, ds.all immB = true → Dats M0 H ds vs → PDs M P H' ds vs
  | [], vs, _, h => by unfold Dats at h; unfold PDs; exact h
  | d :: ds, vs, hn, h => by
    unfold Dats at h
    unfold PDs
    rw [List.all_cons, Bool.and_eq_true] at hn
    obtain ⟨v, r, e, h1, h2⟩ := h
    refine ⟨v, r, e, ?_, imm_pd hn.2 h2⟩
    have h0 := hn.1
    unfold immB at h0
    split at h0 <;> first | (unfold Dat at h1; unfold PD; exact h1) | cases h0
theorem Rel.openOne (R : Rel C env σ Hm) (np : Hm p = none) (kp : ∀ a o, Hm a = some o → H' a = some o) (nT : ¬ C.M0 T) (nt : NewT H' T p xs es) (nv : env.all noPrv = true) :
    ∃ hP, Rel (C.priv (· = p) hP) env σ H' ∧ PD (NM (C.priv (· = p) hP) env σ) (C.priv (· = p) hP).pv H' (.tup (.lst xs :: es)) (.ref T) := by
  have R' := R.grow kp
  have nw := nt.nW R'
  refine ⟨fun a z => by subst z; exact ⟨fun i e => R.mem a (R.iob i a e).1 np, R.h0 np⟩, ?_, ?_⟩
  · have mm : ∀ a, (C.M0 a ∨ a = p) ∨ W env σ a → MM C env σ a ∨ Hm a = none := fun a z => by
      rcases z with (z | z) | z
      · exact .inl (.inl z)
      · exact .inr (z ▸ np)
      · exact .inl (.inr z)
    exact {
      len := R.len
      dat := fun i d h => by
        obtain ⟨v, h1, h2⟩ := R.dat i d h
        exact ⟨v, h1, h2.to (fun a o _ q => kp a o q) mm⟩
      own := fun i b ys h => by
        obtain ⟨a, vs, h1, h2, h3⟩ := R.own i b ys h
        exact ⟨a, vs, h1, kp _ _ h2, Dats.to (fun a o _ q => kp a o q) mm _ _ h3⟩
      fit := R.fit
      inj := R.inj
      io := R.io
      iob := fun i a h => ⟨.inl (R.iob i a h).1, (R.iob i a h).2⟩
      no := fun i b ys a nb h1 h2 => by
        obtain ⟨h3, h4⟩ := R.no i b ys a nb h1 h2
        refine ⟨h3, fun z => z.elim h4 fun z => ?_⟩
        obtain ⟨a', vs, q1, q2, _⟩ := R.own i b ys h1
        rw [h2] at q1
        cases q1
        have z : a = p := z
        rw [z, np] at q2
        cases q2
      keep := fun a o n q => kp a o (R.keep a o n q)
      mem := fun a z => by
        rcases z with z | z
        · exact R'.mem a z
        · have z : a = p := z
          obtain ⟨ws, h2, _⟩ := nt.lst
          rw [z, h2]
          simp
      prv := fun i d h => (noprv_get nv h).elim }
  · obtain ⟨us, h1, d1⟩ := nt.tup
    obtain ⟨ws, h2, d2⟩ := nt.lst
    unfold PD
    refine ⟨T, _, rfl, ?_, h1, ?_⟩
    · rintro ⟨(z | z) | z, _⟩
      · exact nT z
      · exact nt.ne z
      · exact nw z
    · unfold PDs
      refine ⟨_, _, rfl, ?_, imm_pd nt.ie d1⟩
      unfold PD
      exact ⟨p, ws, rfl, fun z => z.2 rfl, rfl, h2, imm_pd nt.ix d2⟩
end
def fOfT (f : NF) : EF := fun env => (f env).map fun p => (.d (.tup (.lst p.1 :: p.2.1)), p.2.2)
theorem re_ofT {te : TE} {f : NF} (h : RFT te f) : RE te (fOfT f) := fun C env σ H Q rv env' e R k => by
  unfold fOfT at e
  obtain ⟨⟨a, b, e1⟩, h1, e⟩ := Option.map_eq_some_iff.mp e
  cases e
  exact h C env σ H _ _ _ e1 h1 R fun T p Hm H' R1 s1 g1 np kp nT nt => k _ H' (R1.grow kp) s1 (g1.trans s1 fun a o _ q => kp a o q) (nt.dat R1 np kp nT)
/-- x = f(..), and what follows in the block -/
noncomputable def sBrkT (i : Nat) (f : NF) (g : SF) : SF := fun env => (f env).bind fun p => if p.2.2.all noPrv = true ∧ canSet p.2.2 i = true then (g (p.2.2.set i (.prv (.tup (.lst p.1 :: p.2.1))))).map dropO else none
theorem rs_brkT {i : Nat} {te : TE} {f : NF} {u : TS} {g : SF} (h : RFT te f) (hg : RS u g) : RS (tSeq (tAsg te (gName i)) u) (sBrkT i f g) := fun C env σ H D o e R k => by
  unfold sBrkT at e
  obtain ⟨⟨a, b, e1⟩, h1, e⟩ := Option.bind_eq_some_iff.mp e
  split at e
  case isFalse => cases e
  rename_i hc
  obtain ⟨o', h2, e⟩ := Option.map_eq_some_iff.mp e
  subst e
  refine h C env σ H _ _ _ e1 h1 R fun T p Hm H' R1 s1 g1 np kp nT nt => ?_
  obtain ⟨hP, R2, p2⟩ := R1.openOne np kp nT nt hc.1
  exact hg _ _ _ H' D o' h2 (R2.setPrv hc.2 p2).1 (post_close R.hio k)
/-- x[0].append(c) -/
noncomputable def sPrvApp (i : Nat) (c : Dv) : SF := fun env => match env[i]? with
  | some (.prv (.tup (.lst xs :: es))) => if xs.all immB = true ∧ es.all immB = true ∧ immB c = true ∧ xs.length < szL ∧ (env.set i .non).all noPrv = true then some (.nx (env.set i (.prv (.tup (.lst (xs ++ [c]) :: es))))) else none
  | _ => none
theorem rs_prvApp {K : PySem.W.Frag} {i : Nat} {tc : TE} {c : Dv} {ix : TE} (hix : ∀ σ H Q, (∃ T p us, σ[i]? = some (some (.ref T)) ∧ H T = some (.tup (.ref p :: us)) ∧ Q (.ref p) H) → ix σ H Q) (hc : RE tc (fC c)) :
    RS (tDrop (tBM K "list" rAppend ix (tCons tc tNil))) (sPrvApp i c) := fun C env σ H D o h R k => by
  unfold sPrvApp at h
  split at h
  case h_2 => cases h
  rename_i xs es ei
  split at h
  case isFalse => cases h
  rename_i hh
  obtain ⟨ix', ie, ic, hz, np⟩ := hh
  cases h
  obtain ⟨v, hv, hp⟩ := R.prv i _ ei
  have hp0 := hp
  unfold PD at hp
  obtain ⟨T, vs, rfl, nT, hT, hs⟩ := hp
  unfold PDs at hs
  obtain ⟨w, us, rfl, hw, hus⟩ := hs
  unfold PD at hw
  obtain ⟨p, ws, rfl, nP, pp, hpl, hws⟩ := hw
  have lw := (PDs.toDat _ _ hws).length
  refine hix σ H _ ⟨T, p, us, hv, hT, .inl ⟨rfl, ws, SqL.of hpl⟩, ?_⟩
  refine hc C env σ H _ _ _ rfl R fun y H1 R1 s1 g1 r1 => ?_
  have hpl1 : H1 p = some (.lst ws) := g1 p _ (R.pvW pp) hpl
  have nTw : ¬ W env σ T := R.nmW nT
  have hT1 : H1 T = some (.tup (.ref p :: us)) := g1 T _ nTw hT
  have neT : T ≠ p := fun z => by rw [z, hpl1] at hT1; cases hT1
  refine ⟨p, ws, y, rfl, rfl, hpl1, szL_lt (by rw [lw]; exact hz), ?_⟩
  have ci : canSet env i = true := by unfold canSet; rw [ei]
  have R2 := (R1.kill ci).spoil np pp (.lst (ws ++ [y]))
  have hi : i < σ.length := (List.getElem?_eq_some_iff.mp hv).1
  have cn : canSet (env.set i .non) i = true := by
    have hie : i < env.length := by rw [← R.len]; exact hi
    unfold canSet
    rw [List.getElem?_set_self hie]
  have sub : ∀ a, NM C (env.set i .non) σ a → NM C env σ a := fun a z => ⟨z.1.imp id (fun ⟨j, b, zs, h1, h2⟩ => by
    refine ⟨j, b, zs, ?_, h2⟩
    rw [set_get] at h1
    by_cases e : i = j
    · rw [if_pos e] at h1
      split at h1
      · exact (OK.nonon (Option.some.inj h1).symm).elim
      · cases h1
    · rw [if_neg e] at h1
      exact h1), z.2⟩
  have q : PD (NM C (env.set i .non) σ) C.pv (upd H1 p (.lst (ws ++ [y]))) (.tup (.lst (xs ++ [c]) :: es)) (.ref T) := by
    unfold PD
    refine ⟨T, _, rfl, fun z => nT (sub T z), by rw [upd_ne neT]; exact hT1, ?_⟩
    unfold PDs
    refine ⟨_, _, rfl, ?_, imm_pd ie (PDs.toDat _ _ hus)⟩
    unfold PD
    refine ⟨p, _, rfl, fun z => nP (sub p z), pp, upd_same, ?_⟩
    have dy : Dats (fun _ => False) H1 [c] [y] := imm_dats (M := MM C env σ) (H := H1) (by rw [List.all_cons, ic]; rfl) (.one r1)
    exact imm_pd (M0 := fun _ => False) (H := H1) (by rw [List.all_append, ix', List.all_cons, ic]; rfl) ((imm_dats (M := NM C env σ) (H := H) ix' (PDs.toDat _ _ hws)).app dy)
  have R3 := (R2.setPrv cn q).1
  rw [List.set_set] at R3
  have es' : σ.set i (some (.ref T)) = σ := by
    have := List.set_getElem_self hi
    have e2 : σ[i] = some (.ref T) := by
      rw [List.getElem?_eq_getElem hi] at hv
      exact Option.some.inj hv
    rwa [e2] at this
  rw [es'] at R3
  exact k σ _ R3
/-! ### an expression that only looks at what is a slot's alone -/
def ownImm : Slot → Bool
  | .own _ xs => xs.all immB
  | .ownD _ xs => xs.all immB
  | _ => true
open Classical in
noncomputable def fLend (i : Nat) (fe : EF) : EF := fun env => match env[i]? with
  | some (.prv d) => if env.all ownImm = true ∧ (env.set i .non).all noPrv = true then match fe (env.set i (.dat d)) with
      | some (.d r, e') => if e' = env.set i (.dat d) ∧ immB r = true then some (.d r, env) else none
      | _ => none else none
  | _ => none
theorem fLend_of {i : Nat} {fe : EF} {env : DEnv} {d r : Dv} (h1 : env[i]? = some (.prv d)) (h2 : env.all ownImm = true ∧ (env.set i .non).all noPrv = true) (h3 : fe (env.set i (.dat d)) = some (.d r, env.set i (.dat d))) (h4 : immB r = true) : fLend i fe env = some (.d r, env) := by
  unfold fLend
  rw [h1]
  dsimp only
  rw [if_pos h2, h3]
  simp only [h4, and_self, if_true]
def DC.low (C : DC) : DC := { C with M0 := fun a => C.M0 a ∧ ¬ C.pv a, pv := fun _ => False, pvm := fun _ h => h.elim }
theorem re_lend {i : Nat} {te : TE} {fe : EF} (he : RE te fe) : RE te (fLend i fe) := fun C env σ H Q rv env' h R k => by
  unfold fLend at h
  split at h
  case h_2 => cases h
  rename_i d ei
  split at h
  case isFalse => cases h
  rename_i hi
  obtain ⟨hi, nv⟩ := hi
  split at h
  case h_2 => cases h
  rename_i r e' hf
  split at h
  case isFalse => cases h
  rename_i hc
  cases h
  obtain ⟨rfl, ir⟩ := hc
  have hie : i < env.length := (List.getElem?_eq_some_iff.mp ei).1
  have slot : ∀ {j : Nat} {b : OK} {xs : List Dv}, (env.set i (.dat d))[j]? = some (b.slot xs) → env[j]? = some (b.slot xs) := fun {j b xs} q => by
    rw [set_get] at q
    by_cases e : i = j
    · rw [if_pos e, if_pos hie] at q
      exact (OK.nodat (Option.some.inj q).symm).elim
    · rw [if_neg e] at q
      exact q
  have slot' : ∀ {j : Nat} {b : OK} {xs : List Dv}, env[j]? = some (b.slot xs) → (env.set i (.dat d))[j]? = some (b.slot xs) := fun {j b xs} q => by
    rw [set_get]
    by_cases e : i = j
    · subst e
      rw [ei] at q
      exact (OK.noprv (Option.some.inj q).symm).elim
    · rw [if_neg e]
      exact q
  have ww : ∀ a, W (env.set i (.dat d)) σ a ↔ W env σ a := fun a => ⟨fun ⟨j, b, xs, h1, h2⟩ => ⟨j, b, xs, slot h1, h2⟩, fun ⟨j, b, xs, h1, h2⟩ => ⟨j, b, xs, slot' h1, h2⟩⟩
  have mm : ∀ a, MM C.low (env.set i (.dat d)) σ a → MM C env σ a := fun a z => z.imp (fun z => z.1) (ww a).mp
  have imo : ∀ {j : Nat} {b : OK} {xs : List Dv}, env[j]? = some (b.slot xs) → xs.all immB = true := fun {j b xs} q => by
    have := List.all_eq_true.mp hi _ (List.mem_of_getElem? q)
    cases b <;> exact this
  have R0 : Rel C.low (env.set i (.dat d)) σ H := {
    len := by rw [List.length_set]; exact R.len
    dat := fun j x q => by
      rw [set_get] at q
      by_cases e : i = j
      · rw [if_pos e, if_pos hie] at q
        cases q
        subst e
        obtain ⟨v, h1, h2⟩ := R.prv i _ ei
        refine ⟨v, h1, (PD.toDat _ _ h2).to (fun _ _ _ q => q) fun a z => .inl ?_⟩
        rcases z with z | z
        · exact ⟨.inl z.1, z.2⟩
        · have z := (ww a).mp z
          exact ⟨.inr z, fun w => R.pvW w z⟩
      · rw [if_neg e] at q
        obtain ⟨v, h1, h2⟩ := R.dat j x q
        exact ⟨v, h1, h2.to (fun _ _ _ q => q) fun a z => .inl (mm a z)⟩
    own := fun j b xs q => by
      obtain ⟨a, vs, h1, h2, h3⟩ := R.own j b xs (slot q)
      exact ⟨a, vs, h1, h2, Dats.to (fun _ _ _ q => q) (fun a z => .inl (mm a z)) _ _ h3⟩
    fit := fun j b xs q => R.fit j b xs (slot q)
    inj := fun j k b c xs ys a q1 q2 => R.inj j k b c xs ys a (slot q1) (slot q2)
    io := fun j xs q => R.io j xs (slot (b := .lst true) q)
    iob := fun j a q => by
      obtain ⟨h1, xs, h2, h3⟩ := R.iob j a q
      exact ⟨⟨h1, fun z => (C.pvm a z).2.1 j q⟩, xs, slot' (b := .lst true) h2, h3⟩
    no := fun j b xs a nb q h1 => by
      obtain ⟨h3, h4⟩ := R.no j b xs a nb (slot q) h1
      exact ⟨h3, fun z => h4 z.1⟩
    keep := R.keep
    mem := fun a z => R.mem a z.1
    prv := fun j x q => by
      rw [set_get] at q
      by_cases e : i = j
      · rw [if_pos e, if_pos hie] at q
        cases q
      · rw [if_neg e] at q
        refine (noprv_get nv (i := j) (d := x) ?_).elim
        rw [List.getElem?_set_ne e]
        exact q }
  refine he C.low (env.set i (.dat d)) σ H _ _ _ hf R0 fun v H1 R1 s1 g1 r1 => ?_
  have g : Grow env σ H H1 := fun a o n q => g1 a o (fun z => n ((ww a).mp z)) q
  refine k v H1 ?_ (Sh.refl _) g (imm_dat ir r1)
  exact {
    len := R.len
    dat := fun j x q => by
      obtain ⟨v, h1, h2⟩ := R.dat j x q
      exact ⟨v, h1, h2.to (fun a o n q => g a o (fun z => n (.inr z)) q) fun a z => .inl z⟩
    own := fun j b xs q => by
      obtain ⟨a, vs, h1, h2, h3⟩ := R1.own j b xs (slot' q)
      exact ⟨a, vs, h1, h2, imm_dats (imo q) h3⟩
    fit := R.fit
    inj := R.inj
    io := R.io
    iob := R.iob
    no := R.no
    keep := fun a o n q => R1.keep a o n q
    mem := fun a z => by
      cases q : H a with
      | none => exact absurd q (R.mem a z)
      | some o =>
        by_cases w : W env σ a
        · obtain ⟨j, b, xs, h1, h2⟩ := w
          obtain ⟨a', vs, h3, h4, _⟩ := R1.own j b xs (slot' h1)
          rw [h2] at h3
          cases h3
          rw [h4]
          simp
        · rw [g a o w q]
          simp
    prv := fun j x q => by
      obtain ⟨v, h1, h2⟩ := R.prv j x q
      exact ⟨v, h1, PD.to (fun a o n q => g a o (R.nmW n) q) (fun a z => .inl z) (fun _ z => z) _ _ h2⟩ }
/-! ### keyword calls -/
section
variable {K : PySem.W.Frag} {m N : Nat} {b : List Nat} {F : List Dv → Option (List Dv × List Dv)} {E : XK} {tk : TA} {fk : AF} {gV : List V → List V → List V}
def fCallKT (m N : Nat) (b : List Nat) (F : List Dv → Option (List Dv × List Dv)) (fk : AF) : NF := fun env => (fk env).bind fun p => (lents p.2 p.1).bind fun ds => if ds.length = m ∧ (gix b ds).length = N then (F (gix b ds)).map fun r => (r.1, r.2, p.2) else none
theorem rft_callK (hg : ∀ zs, gV [] zs = gix b zs) (hk : RA tk fk) : RFT (DG.tCallKn 0 m (spT N F) gV E tNil tk) (fCallKT m N b F fk) := fun C env σ H Q xs es env' h R k => by
  unfold fCallKT at h
  obtain ⟨⟨rs, e1⟩, h1, h⟩ := Option.bind_eq_some_iff.mp h
  obtain ⟨ds, h2, h⟩ := Option.bind_eq_some_iff.mp h
  split at h
  case isFalse => cases h
  rename_i hn
  obtain ⟨⟨a, c⟩, h3, h⟩ := Option.map_eq_some_iff.mp h
  cases h
  show tk σ H _
  refine hk C env σ H _ rs e1 h1 R fun vs H1 R1 s1 g1 r1 => ?_
  have d1 := lents_ok R1 r1 h2
  have d2 := dats_gix d1 b
  refine ⟨rfl, by rw [d1.length]; exact hn.1, ?_⟩
  rw [hg]
  exact ⟨C.M0, gix b ds, _, _, h3, by rw [d2.length]; exact hn.2, d2, fun a q => R1.mem a q, fun T p H' np nT nt kp => k T p H1 H' R1 s1 g1 np kp nT nt⟩
end
end DL

set_option Elab.async false
set_option linter.all false
set_option maxRecDepth 100000
set_option maxHeartbeats 4000000
/-! A slice of a list as a new list. -/
namespace DL
open PySem L2 PyProof.Rows
noncomputable def lSl (fa : EF) (fl fh : DEnv → Option (Option Int × DEnv)) : LF := fun env => (fa env).bind fun p => (fl p.2).bind fun q => (fh q.2).bind fun r => (seqL r.2 p.1).map fun xs => (cut xs q.1 r.1, r.2)
@[simp] theorem e_lSl {fa : EF} {fl fh : DEnv → Option (Option Int × DEnv)} {env : DEnv} : lSl fa fl fh env = (fa env).bind fun p => (fl p.2).bind fun q => (fh q.2).bind fun r => (seqL r.2 p.1).map fun xs => (cut xs q.1 r.1, r.2) := rfl
theorem rl_sl {K : PySem.W.Frag} {ta : TE} {fa : EF} {tl th : TO} {fl fh : DEnv → Option (Option Int × DEnv)} (ha : RE ta fa) (hl : RO tl fl) (hh : RO th fh) : RL (tSl (rSlU K) ta tl th) (lSl fa fl fh) := fun C env σ H Q xs env' h R k => by
  unfold lSl at h
  obtain ⟨⟨x, e1⟩, h1, h⟩ := Option.bind_eq_some_iff.mp h
  obtain ⟨⟨lo, e2⟩, h2, h⟩ := Option.bind_eq_some_iff.mp h
  obtain ⟨⟨hi, e3⟩, h3, h⟩ := Option.bind_eq_some_iff.mp h
  obtain ⟨ys, q, h⟩ := Option.map_eq_some_iff.mp h
  cases h
  refine ha C env σ H _ x e1 h1 R fun vx H1 R1 s1 g1 r1 => ?_
  refine hl C e1 σ H1 _ lo e2 h2 R1 fun H2 R2 s2 g2 => ?_
  refine hh C e2 σ H2 _ hi e3 h3 R2 fun H3 R3 s3 g3 => ?_
  have r3 : RVr C e3 σ H3 x vx := (r1.step s2 g2).step s3 g3
  have ss := (s1.trans s2).trans s3
  have gg := (g1.trans s1 g2).trans (s1.trans s2) g3
  obtain ⟨a, vs, rfl, hha, hs⟩ := seqL_ok R3 r3 q
  refine .inl ⟨a, vs, rfl, SqL.of hha, fun p np => ?_⟩
  refine k p _ _ (fun d v q => (dat_plus ss gg np q).to (fun a u _ q => by rw [upd_ne (ne_of_none q np)]; exact q) fun _ z => .inl z) (R3.h0 np) (fun z => R3.mem p z np) (R3.plus np _) ss (gg.trans ss (Grow.new np)) upd_same ?_
  refine Dats.to (fun a u _ q => by rw [upd_ne (ne_of_none q np)]; exact q) (fun b z => ?_) _ _ (hs.cut lo hi)
  rcases z with (z | z) | z
  · exact .inl (.inl z)
  · exact .inr (z ▸ np)
  · exact .inl (.inr z)
end DL

set_option Elab.async false
set_option linter.all false
set_option maxRecDepth 100000
set_option maxHeartbeats 4000000
/-! script[i] if i < len(script) else sum(script[:1]) % 1000003, written out. -/
namespace DL
open PySem L2 PyProof.Rows
theorem re_cellE {K : PySem.W.Frag} {i j : Nat} : RE (tIf (tTest (tOp (rCmpU ltI ltS) (tVar j) (tCB (rLen K) (tCons (tVar i) tNil)))) (tOp (rIx K) (tVar i) (tVar j))
    (tOp (rI (fun _ j => j ≠ 0) fun i j => .int (i.fmod j)) (tCB (rSumU K) (tCons (tSl (rSlU K) (tVar i) tNoPart (tPart (tC (.int 1)))) tNil)) (tC (.int 1000003)))) (fCell K i j) := fun C env σ H Q rv env' h R k => by
  unfold fCell at h
  split at h
  case h_2 => cases h
  rename_i K' ns n h1 h2
  split at h
  case isFalse => cases h
  rename_i hc
  obtain ⟨rfl, h0⟩ := hc
  cases h
  obtain ⟨v, z1, z2⟩ := R.dat i _ h1
  obtain ⟨u, y1, y2⟩ := R.dat j _ h2
  unfold Dat at z2 y2
  obtain ⟨a, rfl, z2⟩ := z2
  subst y2
  have hS : SqL K' H a (ns.map V.int) := by
    rcases z2 with ⟨_, z⟩ | z
    · exact .inl z
    · exact z H
  have q : ∀ H', (∀ x o, H x = some o → H' x = some o) → Q (.int (cellM ns n)) H' := fun H' keep => k _ H' (R.grow keep) (Sh.refl _) (fun a o _ z => keep a o z) (show Dat (MM C env σ) H' (.int _) _ by unfold Dat; rfl)
  refine ⟨.int n, y1, .ref a, z1, .ref a, ns.length, rfl, .inl ⟨_, hS, by rw [List.length_map]⟩, .inl ⟨n, ns.length, rfl, rfl, _, rfl, ?_⟩⟩
  by_cases hi : n < ns.length
  · have e : ltI n ns.length = true := decide_eq_true hi
    show (if ltI n ns.length = true then _ else _)
    rw [if_pos e]
    have e1 : cellM ns n = ns[n.toNat]'(by omega) := by
      unfold cellM
      rw [if_pos hi, List.getElem?_eq_getElem (by omega)]
      rfl
    refine ⟨.ref a, z1, .int n, y1, .inl ⟨a, _, n, .int (cellM ns n), rfl, rfl, hS, ?_, q H fun _ _ z => z⟩⟩
    unfold atI ixN
    rw [if_pos h0, if_pos (by rw [List.length_map]; exact hi), Option.bind_some, List.getElem?_map, List.getElem?_eq_getElem (by omega), e1]
    rfl
  · have e : ltI n ns.length = false := decide_eq_false hi
    show (if ltI n ns.length = true then _ else _)
    rw [if_neg (by rw [e]; simp)]
    have e1 : cellM ns n = ((ns.take 1).sum).fmod 1000003 := by
      unfold cellM
      rw [if_neg hi]
    refine ⟨.ref a, z1, 1, rfl, .inl ⟨a, _, rfl, hS, fun p np => ?_⟩⟩
    refine .inl ⟨p, ns.take 1, rfl, .inl (.inl ?_), _, _, rfl, rfl, (show (1000003 : Int) ≠ 0 by decide), ?_⟩
    · rw [upd_same, cutV_01, List.map_take]
    · have := q (upd H p (.lst (cutV (ns.map V.int) none (some 1)))) fun x o z => by
        rw [upd_ne (fun w => by rw [w, np] at z; cases z)]
        exact z
      rw [e1] at this
      exact this
end DL



set_option linter.all false
namespace DL
open PySem L2 PyProof.Rows
theorem hix0 {K : PySem.W.Frag} {i : Nat} : ∀ σ H Q, (∃ T p us, σ[i]? = some (some (.ref T)) ∧ H T = some (.tup (.ref p :: us)) ∧ Q (.ref p) H) → tOp (rIx K) (tVar i) (tC (.int 0)) σ H Q := fun σ H Q ⟨T, p, us, h1, h2, q⟩ =>
  ⟨_, h1, .inr (.inl ⟨T, _, 0, .ref p, rfl, rfl, SqT.of h2, by unfold atI ixN; simp, q⟩)⟩
end DL

set_option Elab.async false
set_option linter.all false
set_option maxRecDepth 100000
set_option maxHeartbeats 4000000
namespace Law
open PySem L2 DL

def topS (i : Nat) : Stmt := PySem.Challenge.pw_countscribe_k46_least_runs.main.body.getD i (.Pass ⟨0, 0, 0, 0⟩)
abbrev s_law_generator : Stmt := topS 22
abbrev s_step_back : Stmt := topS 13
abbrev s_shortened : Stmt := topS 14
abbrev s_is_whole : Stmt := topS 6
abbrev s_is_worth : Stmt := topS 10
abbrev s_are_worths : Stmt := topS 11
abbrev s_is_slope : Stmt := topS 12
abbrev s_least_run : Stmt := topS 17
abbrev s_is_run : Stmt := topS 15
abbrev s_check_run : Stmt := topS 16
abbrev s_is_between : Stmt := topS 7
abbrev s_check_number : Stmt := topS 8
abbrev s_value_of : Stmt := topS 18
abbrev s_run_value : Stmt := topS 19
abbrev s_law_caught : Stmt := topS 31
abbrev s_law_refused : Stmt := topS 32
abbrev s_law_value : Stmt := topS 25
abbrev s_law_whole : Stmt := topS 28
abbrev s_law_is_least : Stmt := topS 29
abbrev s_law_hash : Stmt := topS 21
abbrev s_law_random : Stmt := topS 23
abbrev s_law_least_good : Stmt := topS 30
abbrev s_law_worth : Stmt := topS 26
abbrev s_law_back : Stmt := topS 24
abbrev s_law_raw_run : Stmt := topS 27
abbrev s_law : Stmt := topS 33
abbrev s_InvalidList_init : Stmt := inClass (topS 3) 0
abbrev s_InvalidNumber_init : Stmt := inClass (topS 2) 0
abbrev s_InvalidRun_init : Stmt := inClass (topS 4) 0
structure Txt (P : Program) (K : PySem.W.Frag) (mg : Str → Option Value) where
  c_CountError : Addr
  mc_CountError : mg "CountError" = some (.ref c_CountError)
  c_InvalidList : Addr
  mc_InvalidList : mg "InvalidList" = some (.ref c_InvalidList)
  xc_InvalidList : XCls K c_InvalidList
  xf_InvalidList : Addr
  xd_InvalidList : FuncData
  xa_InvalidList : PySem.W.findIn K (.ref c_InvalidList) "__init__" = some (some (.ref xf_InvalidList))
  xt_InvalidList : PySem.W.typeIn K (.ref xf_InvalidList) = some (.type "function")
  xF_InvalidList : FunS P K c_InvalidList "InvalidList.__init__" s_InvalidList_init xf_InvalidList xd_InvalidList
  xe_InvalidList : PySem.W.exmOne K (.ref c_InvalidList) (.ref c_CountError) = some true
  x0_InvalidList : PySem.W.kitOne K (.type "NoneType") (.ref c_InvalidList) = some false
  c_InvalidNumber : Addr
  mc_InvalidNumber : mg "InvalidNumber" = some (.ref c_InvalidNumber)
  xc_InvalidNumber : XCls K c_InvalidNumber
  xf_InvalidNumber : Addr
  xd_InvalidNumber : FuncData
  xa_InvalidNumber : PySem.W.findIn K (.ref c_InvalidNumber) "__init__" = some (some (.ref xf_InvalidNumber))
  xt_InvalidNumber : PySem.W.typeIn K (.ref xf_InvalidNumber) = some (.type "function")
  xF_InvalidNumber : FunS P K c_InvalidNumber "InvalidNumber.__init__" s_InvalidNumber_init xf_InvalidNumber xd_InvalidNumber
  xe_InvalidNumber : PySem.W.exmOne K (.ref c_InvalidNumber) (.ref c_CountError) = some true
  x0_InvalidNumber : PySem.W.kitOne K (.type "NoneType") (.ref c_InvalidNumber) = some false
  c_InvalidRun : Addr
  mc_InvalidRun : mg "InvalidRun" = some (.ref c_InvalidRun)
  xc_InvalidRun : XCls K c_InvalidRun
  xf_InvalidRun : Addr
  xd_InvalidRun : FuncData
  xa_InvalidRun : PySem.W.findIn K (.ref c_InvalidRun) "__init__" = some (some (.ref xf_InvalidRun))
  xt_InvalidRun : PySem.W.typeIn K (.ref xf_InvalidRun) = some (.type "function")
  xF_InvalidRun : FunS P K c_InvalidRun "InvalidRun.__init__" s_InvalidRun_init xf_InvalidRun xd_InvalidRun
  xe_InvalidRun : PySem.W.exmOne K (.ref c_InvalidRun) (.ref c_CountError) = some true
  x0_InvalidRun : PySem.W.kitOne K (.type "NoneType") (.ref c_InvalidRun) = some false
  xk_InvalidList_InvalidList : PySem.W.kitOne K (.ref c_InvalidList) (.ref c_InvalidList) = some true
  xk_InvalidList_InvalidNumber : PySem.W.kitOne K (.ref c_InvalidList) (.ref c_InvalidNumber) = some false
  xk_InvalidList_InvalidRun : PySem.W.kitOne K (.ref c_InvalidList) (.ref c_InvalidRun) = some false
  xk_InvalidNumber_InvalidList : PySem.W.kitOne K (.ref c_InvalidNumber) (.ref c_InvalidList) = some false
  xk_InvalidNumber_InvalidNumber : PySem.W.kitOne K (.ref c_InvalidNumber) (.ref c_InvalidNumber) = some true
  xk_InvalidNumber_InvalidRun : PySem.W.kitOne K (.ref c_InvalidNumber) (.ref c_InvalidRun) = some false
  xk_InvalidRun_InvalidList : PySem.W.kitOne K (.ref c_InvalidRun) (.ref c_InvalidList) = some false
  xk_InvalidRun_InvalidNumber : PySem.W.kitOne K (.ref c_InvalidRun) (.ref c_InvalidNumber) = some false
  xk_InvalidRun_InvalidRun : PySem.W.kitOne K (.ref c_InvalidRun) (.ref c_InvalidRun) = some true
  a_law_generator : Addr
  d_law_generator : FuncData
  F_law_generator : Fun K "_law_generator" "_law_generator" s_law_generator a_law_generator d_law_generator
  b_law_generator : Binds K d_law_generator ["_law_script", "_law_index"] []
  m_law_generator : mg "_law_generator" = some (.ref a_law_generator)
  a_step_back : Addr
  d_step_back : FuncData
  F_step_back : Fun K "step_back" "step_back" s_step_back a_step_back d_step_back
  b_step_back : Binds K d_step_back ["start", "slope"] []
  m_step_back : mg "step_back" = some (.ref a_step_back)
  a_shortened : Addr
  d_shortened : FuncData
  F_shortened : Fun K "shortened" "shortened" s_shortened a_shortened d_shortened
  b_shortened : Binds K d_shortened ["first", "start", "slope"] []
  m_shortened : mg "shortened" = some (.ref a_shortened)
  a_is_whole : Addr
  d_is_whole : FuncData
  F_is_whole : Fun K "is_whole" "is_whole" s_is_whole a_is_whole d_is_whole
  b_is_whole : Binds K d_is_whole ["value"] []
  m_is_whole : mg "is_whole" = some (.ref a_is_whole)
  a_is_worth : Addr
  d_is_worth : FuncData
  F_is_worth : Fun K "is_worth" "is_worth" s_is_worth a_is_worth d_is_worth
  b_is_worth : Binds K d_is_worth ["value"] []
  m_is_worth : mg "is_worth" = some (.ref a_is_worth)
  a_are_worths : Addr
  d_are_worths : FuncData
  F_are_worths : Fun K "are_worths" "are_worths" s_are_worths a_are_worths d_are_worths
  b_are_worths : Binds K d_are_worths ["value"] []
  m_are_worths : mg "are_worths" = some (.ref a_are_worths)
  a_is_slope : Addr
  d_is_slope : FuncData
  F_is_slope : Fun K "is_slope" "is_slope" s_is_slope a_is_slope d_is_slope
  b_is_slope : Binds K d_is_slope ["start", "slope"] []
  m_is_slope : mg "is_slope" = some (.ref a_is_slope)
  a_least_run : Addr
  d_least_run : FuncData
  F_least_run : Fun K "least_run" "least_run" s_least_run a_least_run d_least_run
  b_least_run : Binds K d_least_run ["first", "start", "slope"] []
  m_least_run : mg "least_run" = some (.ref a_least_run)
  a_is_run : Addr
  d_is_run : FuncData
  F_is_run : Fun K "is_run" "is_run" s_is_run a_is_run d_is_run
  b_is_run : Binds K d_is_run ["value"] []
  m_is_run : mg "is_run" = some (.ref a_is_run)
  a_check_run : Addr
  d_check_run : FuncData
  F_check_run : Fun K "check_run" "check_run" s_check_run a_check_run d_check_run
  b_check_run : Binds K d_check_run ["run"] []
  m_check_run : mg "check_run" = some (.ref a_check_run)
  a_is_between : Addr
  d_is_between : FuncData
  F_is_between : Fun K "is_between" "is_between" s_is_between a_is_between d_is_between
  b_is_between : Binds K d_is_between ["value", "low", "high"] []
  m_is_between : mg "is_between" = some (.ref a_is_between)
  a_check_number : Addr
  d_check_number : FuncData
  F_check_number : Fun K "check_number" "check_number" s_check_number a_check_number d_check_number
  b_check_number : Binds K d_check_number ["number", "low", "high"] []
  m_check_number : mg "check_number" = some (.ref a_check_number)
  a_value_of : Addr
  d_value_of : FuncData
  F_value_of : Fun K "value_of" "value_of" s_value_of a_value_of d_value_of
  b_value_of : Binds K d_value_of ["run", "number"] []
  m_value_of : mg "value_of" = some (.ref a_value_of)
  a_run_value : Addr
  d_run_value : FuncData
  F_run_value : Fun K "run_value" "run_value" s_run_value a_run_value d_run_value
  b_run_value : Binds K d_run_value ["run", "number"] []
  m_run_value : mg "run_value" = some (.ref a_run_value)
  a_law_caught : Addr
  d_law_caught : FuncData
  F_law_caught : Fun K "_law_caught" "_law_caught" s_law_caught a_law_caught d_law_caught
  b_law_caught : Binds K d_law_caught ["_law_which", "_law_given"] []
  m_law_caught : mg "_law_caught" = some (.ref a_law_caught)
  a_law_refused : Addr
  d_law_refused : FuncData
  F_law_refused : Fun K "_law_refused" "_law_refused" s_law_refused a_law_refused d_law_refused
  b_law_refused : Binds K d_law_refused [] []
  m_law_refused : mg "_law_refused" = some (.ref a_law_refused)
  a_law_value : Addr
  d_law_value : FuncData
  F_law_value : Fun K "_law_value" "_law_value" s_law_value a_law_value d_law_value
  b_law_value : Binds K d_law_value ["_law_run", "_law_number"] []
  m_law_value : mg "_law_value" = some (.ref a_law_value)
  a_law_whole : Addr
  d_law_whole : FuncData
  F_law_whole : Fun K "_law_whole" "_law_whole" s_law_whole a_law_whole d_law_whole
  b_law_whole : Binds K d_law_whole ["_law_value_here"] []
  m_law_whole : mg "_law_whole" = some (.ref a_law_whole)
  a_law_is_least : Addr
  d_law_is_least : FuncData
  F_law_is_least : Fun K "_law_is_least" "_law_is_least" s_law_is_least a_law_is_least d_law_is_least
  b_law_is_least : Binds K d_law_is_least ["_law_run"] []
  m_law_is_least : mg "_law_is_least" = some (.ref a_law_is_least)
  a_law_hash : Addr
  d_law_hash : FuncData
  F_law_hash : Fun K "_law_hash" "_law_hash" s_law_hash a_law_hash d_law_hash
  b_law_hash : Binds K d_law_hash ["_law_seed", "_law_index"] []
  m_law_hash : mg "_law_hash" = some (.ref a_law_hash)
  a_law_random : Addr
  d_law_random : FuncData
  F_law_random : Fun K "_law_random" "_law_random" s_law_random a_law_random d_law_random
  b_law_random : Binds K d_law_random ["_law_generator_here", "_law_bound"] []
  m_law_random : mg "_law_random" = some (.ref a_law_random)
  a_law_least_good : Addr
  d_law_least_good : FuncData
  F_law_least_good : Fun K "_law_least_good" "_law_least_good" s_law_least_good a_law_least_good d_law_least_good
  b_law_least_good : Binds K d_law_least_good ["_law_generator_here", "_law_raw"] []
  m_law_least_good : mg "_law_least_good" = some (.ref a_law_least_good)
  a_law_worth : Addr
  d_law_worth : FuncData
  F_law_worth : Fun K "_law_worth" "_law_worth" s_law_worth a_law_worth d_law_worth
  b_law_worth : Binds K d_law_worth ["_law_generator_here"] []
  m_law_worth : mg "_law_worth" = some (.ref a_law_worth)
  a_law_back : Addr
  d_law_back : FuncData
  F_law_back : Fun K "_law_back" "_law_back" s_law_back a_law_back d_law_back
  b_law_back : Binds K d_law_back ["_law_start", "_law_slope"] []
  m_law_back : mg "_law_back" = some (.ref a_law_back)
  a_law_raw_run : Addr
  d_law_raw_run : FuncData
  F_law_raw_run : Fun K "_law_raw_run" "_law_raw_run" s_law_raw_run a_law_raw_run d_law_raw_run
  b_law_raw_run : Binds K d_law_raw_run ["_law_generator_here", "_law_most"] []
  m_law_raw_run : mg "_law_raw_run" = some (.ref a_law_raw_run)
  a_law : Addr
  d_law : FuncData
  F_law : Fun K "law" "law" s_law a_law d_law
  b_law : Binds K d_law ["_law_script"] []
  m_law : mg "law" = some (.ref a_law)
  n_bool : mg "bool" = none
  n_int : mg "int" = none
  n_isinstance : mg "isinstance" = none
  n_len : mg "len" = none
  n_list : mg "list" = none
  n_max : mg "max" = none
  n_range : mg "range" = none
  n_repr : mg "repr" = none
  n_sum : mg "sum" = none
  n_super : mg "super" = none
  n_tuple : mg "tuple" = none
section
variable {P : Program} {w : World} {K : PySem.W.Frag} {mg : Str → Option Value} {base : Heap}
theorem kb0_least_run (T : Txt P K mg) : KBn K T.d_least_run ["first", "start", "slope"] 0 ["first", "slope", "start"] (fun us ws => gix [0, 2, 1] (us ++ ws)) (fun vs zs => gix [0, 2, 1] (vs ++ zs)) :=
  DG.kbn_of T.F_least_run fun _ _ _ _ _ _ us ws l1 l2 => match us, ws, l1, l2 with | [], [z0, z1, z2], _, _ => rfl
theorem kb1_is_run (T : Txt P K mg) : KBn K T.d_is_run ["value"] 0 ["value"] (fun us ws => gix [0] (us ++ ws)) (fun vs zs => gix [0] (vs ++ zs)) :=
  DG.kbn_of T.F_is_run fun _ _ _ _ _ _ us ws l1 l2 => match us, ws, l1, l2 with | [], [z0], _, _ => rfl
theorem kb2_run_value (T : Txt P K mg) : KBn K T.d_run_value ["run", "number"] 0 ["number", "run"] (fun us ws => gix [1, 0] (us ++ ws)) (fun vs zs => gix [1, 0] (vs ++ zs)) :=
  DG.kbn_of T.F_run_value fun _ _ _ _ _ _ us ws l1 l2 => match us, ws, l1, l2 with | [], [z0, z1], _, _ => rfl
theorem xbd_InvalidList (T : Txt P K mg) : L2.Binds K T.xd_InvalidList ["self", "value"] [] := funS_binds T.xF_InvalidList fun _ _ _ _ _ _ _ _ _ _ => ⟨_, rfl, rfl⟩
theorem xok_InvalidList (T : Txt P K mg) : FnOk P w K mg base L2.CX0 1 T.xf_InvalidList T.xd_InvalidList ["self", "value"] (spV T.c_InvalidList "value") :=
  ini_ok T.xF_InvalidList rfl ⟨rfl, rfl, rfl, by decide +kernel, rfl, by decide +kernel, by decide +kernel, by decide +kernel, rfl, rfl⟩ rfl rfl T.xc_InvalidList.vl T.n_super (fun _ _ => ⟨_, rfl⟩)
theorem xbd_InvalidNumber (T : Txt P K mg) : L2.Binds K T.xd_InvalidNumber ["self", "value"] [] := funS_binds T.xF_InvalidNumber fun _ _ _ _ _ _ _ _ _ _ => ⟨_, rfl, rfl⟩
theorem xok_InvalidNumber (T : Txt P K mg) : FnOk P w K mg base L2.CX0 1 T.xf_InvalidNumber T.xd_InvalidNumber ["self", "value"] (spV T.c_InvalidNumber "value") :=
  ini_ok T.xF_InvalidNumber rfl ⟨rfl, rfl, rfl, by decide +kernel, rfl, by decide +kernel, by decide +kernel, by decide +kernel, rfl, rfl⟩ rfl rfl T.xc_InvalidNumber.vl T.n_super (fun _ _ => ⟨_, rfl⟩)
theorem xbd_InvalidRun (T : Txt P K mg) : L2.Binds K T.xd_InvalidRun ["self", "value"] [] := funS_binds T.xF_InvalidRun fun _ _ _ _ _ _ _ _ _ _ => ⟨_, rfl, rfl⟩
theorem xok_InvalidRun (T : Txt P K mg) : FnOk P w K mg base L2.CX0 1 T.xf_InvalidRun T.xd_InvalidRun ["self", "value"] (spV T.c_InvalidRun "value") :=
  ini_ok T.xF_InvalidRun rfl ⟨rfl, rfl, rfl, by decide +kernel, rfl, by decide +kernel, by decide +kernel, by decide +kernel, rfl, rfl⟩ rfl rfl T.xc_InvalidRun.vl T.n_super (fun _ _ => ⟨_, rfl⟩)
theorem xtb (T : Txt P K mg) : ∀ C ∈ [T.c_InvalidList, T.c_InvalidNumber, T.c_InvalidRun], PySem.W.exmOne K (.ref C) (.ref T.c_CountError) = some true := by
  intro C h
  simp only [List.mem_cons, List.not_mem_nil, or_false] at h
  rcases h with h | h | h
  · rw [h]; exact T.xe_InvalidList
  · rw [h]; exact T.xe_InvalidNumber
  · rw [h]; exact T.xe_InvalidRun
theorem xfl (T : Txt P K mg) : ∀ C ∈ [T.c_InvalidList, T.c_InvalidNumber, T.c_InvalidRun], XcC K C ∧ PySem.W.findIn K (.ref C) "value" = some none := by
  intro C h
  simp only [List.mem_cons, List.not_mem_nil, or_false] at h
  rcases h with h | h | h
  · rw [h]; exact ⟨T.xc_InvalidList.xc, T.xc_InvalidList.vl⟩
  · rw [h]; exact ⟨T.xc_InvalidNumber.xc, T.xc_InvalidNumber.vl⟩
  · rw [h]; exact ⟨T.xc_InvalidRun.xc, T.xc_InvalidRun.vl⟩
theorem xis_InvalidList (T : Txt P K mg) : ∀ p ∈ ([(T.c_InvalidList, true), (T.c_InvalidNumber, false), (T.c_InvalidRun, false)] : List (Addr × Bool)), ExcC K p.1 ∧ PySem.W.kitOne K (.ref p.1) (.ref T.c_InvalidList) = some p.2 := by
  intro C h
  simp only [List.mem_cons, List.not_mem_nil, or_false] at h
  rcases h with h | h | h
  · rw [h]; exact ⟨T.xc_InvalidList.xc.is, T.xk_InvalidList_InvalidList⟩
  · rw [h]; exact ⟨T.xc_InvalidNumber.xc.is, T.xk_InvalidNumber_InvalidList⟩
  · rw [h]; exact ⟨T.xc_InvalidRun.xc.is, T.xk_InvalidRun_InvalidList⟩
theorem xis_InvalidNumber (T : Txt P K mg) : ∀ p ∈ ([(T.c_InvalidList, false), (T.c_InvalidNumber, true), (T.c_InvalidRun, false)] : List (Addr × Bool)), ExcC K p.1 ∧ PySem.W.kitOne K (.ref p.1) (.ref T.c_InvalidNumber) = some p.2 := by
  intro C h
  simp only [List.mem_cons, List.not_mem_nil, or_false] at h
  rcases h with h | h | h
  · rw [h]; exact ⟨T.xc_InvalidList.xc.is, T.xk_InvalidList_InvalidNumber⟩
  · rw [h]; exact ⟨T.xc_InvalidNumber.xc.is, T.xk_InvalidNumber_InvalidNumber⟩
  · rw [h]; exact ⟨T.xc_InvalidRun.xc.is, T.xk_InvalidRun_InvalidNumber⟩
theorem xis_InvalidRun (T : Txt P K mg) : ∀ p ∈ ([(T.c_InvalidList, false), (T.c_InvalidNumber, false), (T.c_InvalidRun, true)] : List (Addr × Bool)), ExcC K p.1 ∧ PySem.W.kitOne K (.ref p.1) (.ref T.c_InvalidRun) = some p.2 := by
  intro C h
  simp only [List.mem_cons, List.not_mem_nil, or_false] at h
  rcases h with h | h | h
  · rw [h]; exact ⟨T.xc_InvalidList.xc.is, T.xk_InvalidList_InvalidRun⟩
  · rw [h]; exact ⟨T.xc_InvalidNumber.xc.is, T.xk_InvalidNumber_InvalidRun⟩
  · rw [h]; exact ⟨T.xc_InvalidRun.xc.is, T.xk_InvalidRun_InvalidRun⟩
theorem xit_InvalidList_InvalidNumber (T : Txt P K mg) : ∀ p ∈ ([(T.c_InvalidList, true), (T.c_InvalidNumber, true), (T.c_InvalidRun, false)] : List (Addr × Bool)), ExcC K p.1 ∧ PySem.W.kitAny K (.ref p.1) (([T.c_InvalidList, T.c_InvalidNumber] : List Addr).map Value.ref) = some p.2 := by
  intro C h
  simp only [List.mem_cons, List.not_mem_nil, or_false] at h
  rcases h with h | h | h
  · rw [h]; exact ⟨T.xc_InvalidList.xc.is, kitAny2 T.xk_InvalidList_InvalidList T.xk_InvalidList_InvalidNumber⟩
  · rw [h]; exact ⟨T.xc_InvalidNumber.xc.is, kitAny2 T.xk_InvalidNumber_InvalidList T.xk_InvalidNumber_InvalidNumber⟩
  · rw [h]; exact ⟨T.xc_InvalidRun.xc.is, kitAny2 T.xk_InvalidRun_InvalidList T.xk_InvalidRun_InvalidNumber⟩
theorem xi0_InvalidList_InvalidNumber (T : Txt P K mg) : PySem.W.kitAny K (.type "NoneType") (([T.c_InvalidList, T.c_InvalidNumber] : List Addr).map Value.ref) = some false := kitAny2 T.x0_InvalidList T.x0_InvalidNumber
theorem xit_InvalidList_InvalidRun (T : Txt P K mg) : ∀ p ∈ ([(T.c_InvalidList, true), (T.c_InvalidNumber, false), (T.c_InvalidRun, true)] : List (Addr × Bool)), ExcC K p.1 ∧ PySem.W.kitAny K (.ref p.1) (([T.c_InvalidList, T.c_InvalidRun] : List Addr).map Value.ref) = some p.2 := by
  intro C h
  simp only [List.mem_cons, List.not_mem_nil, or_false] at h
  rcases h with h | h | h
  · rw [h]; exact ⟨T.xc_InvalidList.xc.is, kitAny2 T.xk_InvalidList_InvalidList T.xk_InvalidList_InvalidRun⟩
  · rw [h]; exact ⟨T.xc_InvalidNumber.xc.is, kitAny2 T.xk_InvalidNumber_InvalidList T.xk_InvalidNumber_InvalidRun⟩
  · rw [h]; exact ⟨T.xc_InvalidRun.xc.is, kitAny2 T.xk_InvalidRun_InvalidList T.xk_InvalidRun_InvalidRun⟩
theorem xi0_InvalidList_InvalidRun (T : Txt P K mg) : PySem.W.kitAny K (.type "NoneType") (([T.c_InvalidList, T.c_InvalidRun] : List Addr).map Value.ref) = some false := kitAny2 T.x0_InvalidList T.x0_InvalidRun
theorem xit_InvalidNumber_InvalidRun (T : Txt P K mg) : ∀ p ∈ ([(T.c_InvalidList, false), (T.c_InvalidNumber, true), (T.c_InvalidRun, true)] : List (Addr × Bool)), ExcC K p.1 ∧ PySem.W.kitAny K (.ref p.1) (([T.c_InvalidNumber, T.c_InvalidRun] : List Addr).map Value.ref) = some p.2 := by
  intro C h
  simp only [List.mem_cons, List.not_mem_nil, or_false] at h
  rcases h with h | h | h
  · rw [h]; exact ⟨T.xc_InvalidList.xc.is, kitAny2 T.xk_InvalidList_InvalidNumber T.xk_InvalidList_InvalidRun⟩
  · rw [h]; exact ⟨T.xc_InvalidNumber.xc.is, kitAny2 T.xk_InvalidNumber_InvalidNumber T.xk_InvalidNumber_InvalidRun⟩
  · rw [h]; exact ⟨T.xc_InvalidRun.xc.is, kitAny2 T.xk_InvalidRun_InvalidNumber T.xk_InvalidRun_InvalidRun⟩
theorem xi0_InvalidNumber_InvalidRun (T : Txt P K mg) : PySem.W.kitAny K (.type "NoneType") (([T.c_InvalidNumber, T.c_InvalidRun] : List Addr).map Value.ref) = some false := kitAny2 T.x0_InvalidNumber T.x0_InvalidRun
theorem sc_law_generator : FnScope ["_law_script", "_law_index", "_law_seed"] ["_law_script", "_law_index"] (defScope s_law_generator) := ⟨rfl, rfl, rfl, by decide +kernel, rfl, by decide +kernel, by decide +kernel⟩
noncomputable def g_law_generator (K : PySem.W.Frag) : LF := (fThen (sAsg (fCell K 0 1) (fName 2))
    (lLst (fCons (fOp gMod (fCB (g1 gInt1) (fCons (fCB (g2 (gI2 maxI)) (fCons (fOp gMinus (fVar 2) (fOp gPow (fC (.int (10 : Int))) (fC (.int (18 : Int))))) (fCons (fC (.int (0 : Int))) fNil))) fNil)) (fOp gPow (fOp gPow (fC (.int (10 : Int))) (fC (.int (60 : Int)))) (fC (.int (10 : Int))))) (fCons (fOp gMod (fCB (g1 gInt1) (fCons (fVar 2) fNil)) (fC (.int (2147483647 : Int)))) (fCons (fOp gMul (fC (.int (1000 : Int))) (fVar 1)) fNil)))))
noncomputable def F_law_generator (K : PySem.W.Frag) : List Dv → Option (List Dv) := runL 3 (g_law_generator K)
theorem ok_law_generator (T : Txt P K mg) : DG.FnG P w K mg base CX0 1 T.a_law_generator T.d_law_generator ["_law_script", "_law_index"] (spL 2 (F_law_generator K)) :=
  DG.body0_g (k := 0) T.F_law_generator sc_law_generator (fun _ _ _ _ h => spL_len h) fun cdv A outer s H vs Q E gg hr h => ⟨_, (pss_cons (ps_set (i := 2) sc_law_generator.nd rfl (Or.inl rfl) (pe_ifExp (pt_cmpR opLt (pv 1) (pe_callB callLen (by rfl) T.n_len (by decide +kernel) (pa_cons (pv 0) pa_nil)) (nomark _)) (pe_ix ix_seq (pv 0) (pv 1) (fun _ _ => rfl)) (pe_op op_modN (pe_callB (callSumU rfl) (by rfl) T.n_sum (by decide +kernel) (pa_cons (pe_slice slU (pv 0) po_none (po_some pe_int)) pa_nil)) pe_int)))
    (pss_one (ps_ret (pe_lst (pa_cons (pe_op op_modN (pe_callTy callInt1 (by rfl) T.n_int (by decide +kernel) (pa_cons (pe_callB (callMax2 rfl) (by rfl) T.n_max (by decide +kernel) (pa_cons (pe_op op_sub (pv 2) (pe_op op_powX pe_int pe_int)) (pa_cons pe_int pa_nil))) pa_nil)) (pe_op op_powX (pe_op op_powX pe_int pe_int) pe_int)) (pa_cons (pe_op op_modN (pe_callTy callInt1 (by rfl) T.n_int (by decide +kernel) (pa_cons (pv 2) pa_nil)) pe_int) (pa_cons (pe_op opMul pe_int (pv 1)) pa_nil))))))),
    body_okL (N := ["_law_script", "_law_index", "_law_seed"]) (ps := ["_law_script", "_law_index"]) (by decide) (show RSL _ (g_law_generator K) from (rsl_seq (rs_asg re_cellE (rg_name (i := 2)))
    (rsl_ret (rl_lst (ra_cons (re_op rb_mod (re_cb rc_int (ra_cons (re_cb rc_i2 (ra_cons (re_op rb_sub re_var (re_op rb_pow re_int re_int)) (ra_cons re_int ra_nil))) ra_nil)) (re_op rb_pow (re_op rb_pow re_int re_int) re_int)) (ra_cons (re_op rb_mod (re_cb rc_int (ra_cons re_var ra_nil)) re_int) (ra_cons (re_op rb_mul re_int re_var) ra_nil))))))) h⟩
theorem sc_step_back : FnScope ["start", "slope"] ["start", "slope"] (defScope s_step_back) := ⟨rfl, rfl, rfl, by decide +kernel, rfl, by decide +kernel, by decide +kernel⟩
noncomputable def g_step_back : SF := (sSeq (sIf (fTest (fOp (gIs false) (fVar 0) (fC .non))) (sRet (fC .non)) sNext)
    (sRet (fOp gMinus (fVar 0) (fVar 1))))
noncomputable def F_step_back : FnF := runDef 2 (g_step_back)
theorem ok_step_back (T : Txt P K mg) : DG.FnG P w K mg base CX0 1 T.a_step_back T.d_step_back ["start", "slope"] (spD 2 F_step_back) :=
  DG.body0_g (k := 0) T.F_step_back sc_step_back (fun _ _ _ _ h => spD_len h) fun cdv A outer s H vs Q E gg hr h => ⟨_, (pss_cons (ps_if (pt_cmpR opIs (pv 0) pe_non (nomark _)) (pss_one (ps_ret pe_non)) pss_nil)
    (pss_one (ps_ret (pe_op op_sub (pv 0) (pv 1))))),
    body_ok (N := ["start", "slope"]) (ps := ["start", "slope"]) (by decide) (show RS _ (g_step_back) from (rs_seq (rs_if (rt_test (re_op rb_is re_var re_non)) (rs_ret re_non) rs_next)
    (rs_ret (re_op rb_sub re_var re_var)))) h⟩
theorem sc_shortened : FnScope ["first", "start", "slope", "end"] ["first", "start", "slope"] (defScope s_shortened) := ⟨rfl, rfl, rfl, by decide +kernel, rfl, by decide +kernel, by decide +kernel⟩
noncomputable def g_shortened : SF := (sSeq (sAsg (fCB (g1 gLen) (fCons (fVar 0) fNil)) (fName 3))
    (sSeq (sWhile (fAnd (fTest (fOp gGt (fVar 3) (fC (.int (0 : Int))))) (fTest (fOp gEq (fOp gIx (fVar 0) (fOp gMinus (fVar 3) (fC (.int (1 : Int))))) (fCall 2 none F_step_back (fCons (fVar 1) (fCons (fVar 2) fNil)))))) (sSeq (sAsg (fOp gMinus (fVar 3) (fC (.int (1 : Int)))) (fName 3))
    (sAsg (fOp gIx (fVar 0) (fVar 3)) (fName 1))))
    (sRet (fTup' (fCons (fSl (fVar 0) fNoPart (fPart (fVar 3))) (fCons (fVar 1) (fCons (fVar 2) fNil)))))))
noncomputable def F_shortened : FnF := runDef 4 (g_shortened)
theorem ok_shortened (T : Txt P K mg) : DG.FnG P w K mg base CX0 2 T.a_shortened T.d_shortened ["first", "start", "slope"] (spD 3 F_shortened) :=
  DG.body0_g (k := 1) T.F_shortened sc_shortened (fun _ _ _ _ h => spD_len h) fun cdv A outer s H vs Q E gg hr h => ⟨_, (pss_cons (ps_set (i := 3) sc_shortened.nd rfl (Or.inl rfl) (pe_callB callLen (by rfl) T.n_len (by decide +kernel) (pa_cons (pv 0) pa_nil)))
    (pss_cons (ps_while PassesOwn.never (PW.pt (pw_and (pt_cmpR opGt (pv 3) pe_int (nomark _)) (pw_and1 (pt_cmpR (opEqU hr.units) (pe_ix ix_seq (pv 0) (pe_op op_sub (pv 3) pe_int) (fun _ _ => rfl)) (DG.call_g (ok_step_back (P := P) (w := w) (base := base) T) (DG.guards_deeper.trans gg) (hr.mono (j := 1) (by decide)) rfl T.m_step_back T.F_step_back.kp T.b_step_back .nil pass0 (pa_cons (pv 1) (pa_cons (pv 2) pa_nil))) (nomark _))))) (pss_cons (ps_set (i := 3) sc_shortened.nd rfl (Or.inl rfl) (pe_op op_sub (pv 3) pe_int))
    (pss_one (ps_set (i := 1) sc_shortened.nd rfl (Or.inl rfl) (pe_ix ix_seq (pv 0) (pv 3) (fun _ _ => rfl))))))
    (pss_one (ps_ret (pe_tup (pa_cons (pe_slice slU (pv 0) po_none (po_some (pv 3))) (pa_cons (pv 1) (pa_cons (pv 2) pa_nil)))))))),
    body_ok (N := ["first", "start", "slope", "end"]) (ps := ["first", "start", "slope"]) (by decide) (show RS _ (g_shortened) from (rs_seq (rs_asg (re_cb rc_len (ra_cons re_var ra_nil)) (rg_name (i := 3)))
    (rs_seq (rs_while (rt_and (rt_test (re_op rb_gt re_var re_int)) (rt_test (re_op rb_eq (re_op rb_ix re_var (re_op rb_sub re_var re_int)) (re_call (ra_cons re_var (ra_cons re_var ra_nil)))))) (rs_seq (rs_asg (re_op rb_sub re_var re_int) (rg_name (i := 3)))
    (rs_asg (re_op rb_ix re_var re_var) (rg_name (i := 1)))))
    (rs_ret (re_tup (ra_cons (re_sl re_var ro_none (ro_some re_var)) (ra_cons re_var (ra_cons re_var ra_nil)))))))) h⟩
noncomputable def gT_shortened : DEnv → Option (List Dv × List Dv) := (fThenT (sAsg (fCB (g1 gLen) (fCons (fVar 0) fNil)) (fName 3))
    (fThenT (sWhile (fAnd (fTest (fOp gGt (fVar 3) (fC (.int (0 : Int))))) (fTest (fOp gEq (fOp gIx (fVar 0) (fOp gMinus (fVar 3) (fC (.int (1 : Int))))) (fCall 2 none F_step_back (fCons (fVar 1) (fCons (fVar 2) fNil)))))) (sSeq (sAsg (fOp gMinus (fVar 3) (fC (.int (1 : Int)))) (fName 3))
    (sAsg (fOp gIx (fVar 0) (fVar 3)) (fName 1))))
    (fTupT (lSl (fVar 0) fNoPart (fPart (fVar 3))) (fCons (fVar 1) (fCons (fVar 2) fNil)))))
noncomputable def FT_shortened : List Dv → Option (List Dv × List Dv) := runT 4 (gT_shortened)
theorem okT_shortened (T : Txt P K mg) : DG.FnG P w K mg base CX0 2 T.a_shortened T.d_shortened ["first", "start", "slope"] (spT 3 FT_shortened) :=
  DG.body0_g (k := 1) T.F_shortened sc_shortened (fun _ _ _ _ h => spT_len h) fun cdv A outer s H vs Q E gg hr h => ⟨_, (pss_cons (ps_set (i := 3) sc_shortened.nd rfl (Or.inl rfl) (pe_callB callLen (by rfl) T.n_len (by decide +kernel) (pa_cons (pv 0) pa_nil)))
    (pss_cons (ps_while PassesOwn.never (PW.pt (pw_and (pt_cmpR opGt (pv 3) pe_int (nomark _)) (pw_and1 (pt_cmpR (opEqU hr.units) (pe_ix ix_seq (pv 0) (pe_op op_sub (pv 3) pe_int) (fun _ _ => rfl)) (DG.call_g (ok_step_back (P := P) (w := w) (base := base) T) (DG.guards_deeper.trans gg) (hr.mono (j := 1) (by decide)) rfl T.m_step_back T.F_step_back.kp T.b_step_back .nil pass0 (pa_cons (pv 1) (pa_cons (pv 2) pa_nil))) (nomark _))))) (pss_cons (ps_set (i := 3) sc_shortened.nd rfl (Or.inl rfl) (pe_op op_sub (pv 3) pe_int))
    (pss_one (ps_set (i := 1) sc_shortened.nd rfl (Or.inl rfl) (pe_ix ix_seq (pv 0) (pv 3) (fun _ _ => rfl))))))
    (pss_one (ps_ret (pe_tup (pa_cons (pe_slice slU (pv 0) po_none (po_some (pv 3))) (pa_cons (pv 1) (pa_cons (pv 2) pa_nil)))))))),
    body_okT (N := ["first", "start", "slope", "end"]) (ps := ["first", "start", "slope"]) (by decide) (show RST _ (gT_shortened) from (rst_seq (rs_asg (re_cb rc_len (ra_cons re_var ra_nil)) (rg_name (i := 3)))
    (rst_seq (rs_while (rt_and (rt_test (re_op rb_gt re_var re_int)) (rt_test (re_op rb_eq (re_op rb_ix re_var (re_op rb_sub re_var re_int)) (re_call (ra_cons re_var (ra_cons re_var ra_nil)))))) (rs_seq (rs_asg (re_op rb_sub re_var re_int) (rg_name (i := 3)))
    (rs_asg (re_op rb_ix re_var re_var) (rg_name (i := 1)))))
    (rst_tup (rl_sl re_var ro_none (ro_some re_var)) (ra_cons re_var (ra_cons re_var ra_nil)))))) h⟩
theorem sc_is_whole : FnScope ["value"] ["value"] (defScope s_is_whole) := ⟨rfl, rfl, rfl, by decide +kernel, rfl, by decide +kernel, by decide +kernel⟩
noncomputable def g_is_whole : SF := (sRet (fAndV (fIsi .int (fVar 0)) (fNotV (fIsi .bool (fVar 0)))))
noncomputable def F_is_whole : FnF := runDef 1 (g_is_whole)
theorem ok_is_whole (T : Txt P K mg) : DG.FnG P w K mg base CX0 1 T.a_is_whole T.d_is_whole ["value"] (spD 1 F_is_whole) :=
  DG.body0_g (k := 0) T.F_is_whole sc_is_whole (fun _ _ _ _ h => spD_len h) fun cdv A outer s H vs Q E gg hr h => ⟨_, (pss_one (ps_ret (pe_and (pe_callB call_isi (by rfl) T.n_isinstance (by decide +kernel) (pa_cons (pv 0) (pa_cons (pe_bltn (v := .ty "int") (by rfl) T.n_int (by decide +kernel) rfl) pa_nil))) (pe_one (pe_not (pe_callB call_isi (by rfl) T.n_isinstance (by decide +kernel) (pa_cons (pv 0) (pa_cons (pe_bltn (v := .ty "bool") (by rfl) T.n_bool (by decide +kernel) rfl) pa_nil)))))))),
    body_ok (N := ["value"]) (ps := ["value"]) (by decide) (show RS _ (g_is_whole) from (rs_ret (re_andV (re_isi .int re_var) (re_notV (re_isi .bool re_var))))) h⟩
theorem sc_is_worth : FnScope ["value"] ["value"] (defScope s_is_worth) := ⟨rfl, rfl, rfl, by decide +kernel, rfl, by decide +kernel, by decide +kernel⟩
noncomputable def g_is_worth : SF := (sRet (fOrV (fOp (gIs false) (fVar 0) (fC .non)) (fCall 1 none F_is_whole (fCons (fVar 0) fNil))))
noncomputable def F_is_worth : FnF := runDef 1 (g_is_worth)
theorem ok_is_worth (T : Txt P K mg) : DG.FnG P w K mg base CX0 2 T.a_is_worth T.d_is_worth ["value"] (spD 1 F_is_worth) :=
  DG.body0_g (k := 1) T.F_is_worth sc_is_worth (fun _ _ _ _ h => spD_len h) fun cdv A outer s H vs Q E gg hr h => ⟨_, (pss_one (ps_ret (pe_or (pe_cmpR opIs (pv 0) pe_non (nomark _)) (pe_one (DG.call_g (ok_is_whole (P := P) (w := w) (base := base) T) (DG.guards_deeper.trans gg) (hr.mono (j := 1) (by decide)) rfl T.m_is_whole T.F_is_whole.kp T.b_is_whole .nil pass0 (pa_cons (pv 0) pa_nil)))))),
    body_ok (N := ["value"]) (ps := ["value"]) (by decide) (show RS _ (g_is_worth) from (rs_ret (re_orV (re_op rb_is re_var re_non) (re_call (ra_cons re_var ra_nil))))) h⟩
theorem sc_are_worths : FnScope ["value", "item"] ["value"] (defScope s_are_worths) := ⟨rfl, rfl, rfl, by decide +kernel, rfl, by decide +kernel, by decide +kernel⟩
noncomputable def g_are_worths : SF := (sRet (fAndV (fIsi .list (fVar 0)) (fOp gEq (fOfL (fLc (fSeqIt (fVar 0)) (fName 1) (fNot (fTest (fCall 1 none F_is_worth (fCons (fVar 1) fNil)))) (fVar 1) [1])) (fLst' fNil))))
noncomputable def F_are_worths : FnF := runDef 2 (g_are_worths)
theorem ok_are_worths (T : Txt P K mg) : DG.FnG P w K mg base CX0 3 T.a_are_worths T.d_are_worths ["value"] (spD 1 F_are_worths) :=
  DG.body0_g (k := 2) T.F_are_worths sc_are_worths (fun _ _ _ _ h => spD_len h) fun cdv A outer s H vs Q E gg hr h => ⟨_, (pss_one (ps_ret (pe_and (pe_callB call_isi (by rfl) T.n_isinstance (by decide +kernel) (pa_cons (pv 0) (pa_cons (pe_bltn (v := .ty "list") (by rfl) T.n_list (by decide +kernel) rfl) pa_nil))) (pe_one (pe_cmpR (opEqU hr.units) (pe_lc (own := [("item", 1)]) (g := (gName 1)) rfl sc_are_worths.nd (pi_seq (pv 0)) (blkOk_by (N := ["value", "item"]) (sc := (defScope s_are_worths)) (by decide +kernel)) (fun _ _ _ _ _ => (pg_name (i := 1) sc_are_worths.nd rfl (by first | exact Or.inl rfl | exact Or.inr rfl))) (fun _ _ _ _ _ => (pts_one (pt_not (pt_val (DG.call_g (ok_is_worth (P := P) (w := w) (base := base) T) (DG.guards_deeper.trans gg) (hr.mono (j := 2) (by decide)) rfl T.m_is_worth T.F_is_worth.kp T.b_is_worth .nil pass0 (pa_cons (pv 1) pa_nil)))))) (fun _ _ _ _ _ => (pv 1))) (pe_lst pa_nil) (nomark _)))))),
    body_ok (N := ["value", "item"]) (ps := ["value"]) (by decide) (show RS _ (g_are_worths) from (rs_ret (re_andV (re_isi .list re_var) (re_op rb_eq (re_ofL (rl_lc (ts := [1]) (ri_seq re_var) (rg_name (i := 1)) (by decide) (rt_not (rt_B (re_call (ra_cons re_var ra_nil)))) re_var)) (re_lst ra_nil))))) h⟩
theorem sc_is_slope : FnScope ["start", "slope"] ["start", "slope"] (defScope s_is_slope) := ⟨rfl, rfl, rfl, by decide +kernel, rfl, by decide +kernel, by decide +kernel⟩
noncomputable def g_is_slope : SF := (sRet (fAndV (fCall 1 none F_is_whole (fCons (fVar 1) fNil)) (fOrV (fOp (gIs true) (fVar 0) (fC .non)) (fOp gEq (fVar 1) (fC (.int (0 : Int)))))))
noncomputable def F_is_slope : FnF := runDef 2 (g_is_slope)
theorem ok_is_slope (T : Txt P K mg) : DG.FnG P w K mg base CX0 2 T.a_is_slope T.d_is_slope ["start", "slope"] (spD 2 F_is_slope) :=
  DG.body0_g (k := 1) T.F_is_slope sc_is_slope (fun _ _ _ _ h => spD_len h) fun cdv A outer s H vs Q E gg hr h => ⟨_, (pss_one (ps_ret (pe_and (DG.call_g (ok_is_whole (P := P) (w := w) (base := base) T) (DG.guards_deeper.trans gg) (hr.mono (j := 1) (by decide)) rfl T.m_is_whole T.F_is_whole.kp T.b_is_whole .nil pass0 (pa_cons (pv 1) pa_nil)) (pe_one (pe_or (pe_cmpR opNot (pv 0) pe_non (nomark _)) (pe_one (pe_cmpR (opEqU hr.units) (pv 1) pe_int (nomark _)))))))),
    body_ok (N := ["start", "slope"]) (ps := ["start", "slope"]) (by decide) (show RS _ (g_is_slope) from (rs_ret (re_andV (re_call (ra_cons re_var ra_nil)) (re_orV (re_op rb_isnot re_var re_non) (re_op rb_eq re_var re_int))))) h⟩
theorem sc_least_run : FnScope ["first", "start", "slope"] ["first", "start", "slope"] (defScope s_least_run) := ⟨rfl, rfl, rfl, by decide +kernel, rfl, by decide +kernel, by decide +kernel⟩
noncomputable def gX_least_run (c_InvalidList : Addr) (c_InvalidNumber : Addr) : SX := (sSeqX (sIfX (fNot (fTest (fCall 1 none F_are_worths (fCons (fVar 0) fNil)))) (sRaise c_InvalidList "value" (fVar 0)) (sOk sNext))
    (sSeqX (sIfX (fNot (fTest (fCall 1 none F_is_worth (fCons (fVar 1) fNil)))) (sRaise c_InvalidNumber "value" (fVar 1)) (sOk sNext))
    (sSeqX (sIfX (fNot (fTest (fCall 2 none F_is_slope (fCons (fVar 1) (fCons (fVar 2) fNil))))) (sRaise c_InvalidNumber "value" (fVar 2)) (sOk sNext))
    (sOk (sRet (fCall 3 none F_shortened (fCons (fVar 0) (fCons (fVar 1) (fCons (fVar 2) fNil)))))))))
noncomputable def FX_least_run (c_InvalidList : Addr) (c_InvalidNumber : Addr) : FnX := runX 3 (gX_least_run c_InvalidList c_InvalidNumber)
theorem okX_least_run (T : Txt P K mg) : DG.FnG P w K mg base (L2.CX P w) 4 T.a_least_run T.d_least_run ["first", "start", "slope"] (spX 3 (FX_least_run T.c_InvalidList T.c_InvalidNumber)) :=
  DG.body_g (k := 3) T.F_least_run sc_least_run (fun _ _ _ _ h => spX_len h) fun cdv A outer s H vs Q E gg hr h => ⟨_, (pss_cons (ps_if (pt_not (pt_val (DG.call_g (ok_are_worths (P := P) (w := w) (base := base) T) (DG.guards_deeper.trans gg) (hr.mono (j := 3) (by decide)) rfl T.m_are_worths T.F_are_worths.kp T.b_are_worths .nil pass0 (pa_cons (pv 0) pa_nil)))) (pss_one (ps_raise rfl (takes_of rfl rfl rfl rfl) (mkV T.xc_InvalidList.ox T.xa_InvalidList T.xt_InvalidList (xok_InvalidList (P := P) (w := w) (base := base) T) (hr.mono (j := 2) (by decide)) (xbd_InvalidList T) rfl T.mc_InvalidList (pv 0)))) pss_nil)
    (pss_cons (ps_if (pt_not (pt_val (DG.call_g (ok_is_worth (P := P) (w := w) (base := base) T) (DG.guards_deeper.trans gg) (hr.mono (j := 2) (by decide)) rfl T.m_is_worth T.F_is_worth.kp T.b_is_worth .nil pass0 (pa_cons (pv 1) pa_nil)))) (pss_one (ps_raise rfl (takes_of rfl rfl rfl rfl) (mkV T.xc_InvalidNumber.ox T.xa_InvalidNumber T.xt_InvalidNumber (xok_InvalidNumber (P := P) (w := w) (base := base) T) (hr.mono (j := 2) (by decide)) (xbd_InvalidNumber T) rfl T.mc_InvalidNumber (pv 1)))) pss_nil)
    (pss_cons (ps_if (pt_not (pt_val (DG.call_g (ok_is_slope (P := P) (w := w) (base := base) T) (DG.guards_deeper.trans gg) (hr.mono (j := 2) (by decide)) rfl T.m_is_slope T.F_is_slope.kp T.b_is_slope .nil pass0 (pa_cons (pv 1) (pa_cons (pv 2) pa_nil))))) (pss_one (ps_raise rfl (takes_of rfl rfl rfl rfl) (mkV T.xc_InvalidNumber.ox T.xa_InvalidNumber T.xt_InvalidNumber (xok_InvalidNumber (P := P) (w := w) (base := base) T) (hr.mono (j := 2) (by decide)) (xbd_InvalidNumber T) rfl T.mc_InvalidNumber (pv 2)))) pss_nil)
    (pss_one (ps_ret (DG.call_g (ok_shortened (P := P) (w := w) (base := base) T) (DG.guards_deeper.trans gg) (hr.mono (j := 2) (by decide)) rfl T.m_shortened T.F_shortened.kp T.b_shortened .nil pass0 (pa_cons (pv 0) (pa_cons (pv 1) (pa_cons (pv 2) pa_nil))))))))),
    body_okX (N := ["first", "start", "slope"]) (ps := ["first", "start", "slope"]) (by decide) (show RSX _ _ (gX_least_run T.c_InvalidList T.c_InvalidNumber) from (rsx_seq (rsx_if (rt_not (rt_B (re_call (ra_cons re_var ra_nil)))) (rsx_raise re_var) (rsx_of rs_next))
    (rsx_seq (rsx_if (rt_not (rt_B (re_call (ra_cons re_var ra_nil)))) (rsx_raise re_var) (rsx_of rs_next))
    (rsx_seq (rsx_if (rt_not (rt_B (re_call (ra_cons re_var (ra_cons re_var ra_nil))))) (rsx_raise re_var) (rsx_of rs_next))
    (rsx_of (rs_ret (re_call (ra_cons re_var (ra_cons re_var (ra_cons re_var ra_nil)))))))))) h⟩
noncomputable def F_least_run (c_InvalidList : Addr) (c_InvalidNumber : Addr) : FnF := unX (FX_least_run c_InvalidList c_InvalidNumber)
theorem ok_least_run (T : Txt P K mg) : DG.FnG P w K mg base CX0 4 T.a_least_run T.d_least_run ["first", "start", "slope"] (spD 3 (F_least_run T.c_InvalidList T.c_InvalidNumber)) := noX (okX_least_run T)
noncomputable def gT_least_run (c_InvalidList : Addr) (c_InvalidNumber : Addr) : DEnv → Option (List Dv × List Dv) := (fThenT (sIf (fNot (fTest (fCall 1 none F_are_worths (fCons (fVar 0) fNil)))) sNever sNext)
    (fThenT (sIf (fNot (fTest (fCall 1 none F_is_worth (fCons (fVar 1) fNil)))) sNever sNext)
    (fThenT (sIf (fNot (fTest (fCall 2 none F_is_slope (fCons (fVar 1) (fCons (fVar 2) fNil))))) sNever sNext)
    (fun env => ((fCallT 3 FT_shortened (fCons (fVar 0) (fCons (fVar 1) (fCons (fVar 2) fNil)))) env).map fun p => (p.1, p.2.1)))))
noncomputable def FT_least_run (c_InvalidList : Addr) (c_InvalidNumber : Addr) : List Dv → Option (List Dv × List Dv) := runT 3 (gT_least_run c_InvalidList c_InvalidNumber)
theorem okT_least_run (T : Txt P K mg) : DG.FnG P w K mg base CX0 4 T.a_least_run T.d_least_run ["first", "start", "slope"] (spT 3 (FT_least_run T.c_InvalidList T.c_InvalidNumber)) :=
  DG.body0_g (k := 3) T.F_least_run sc_least_run (fun _ _ _ _ h => spT_len h) fun cdv A outer s H vs Q E gg hr h => ⟨_, (pss_cons (ps_if (pt_not (pt_val (DG.call_g (ok_are_worths (P := P) (w := w) (base := base) T) (DG.guards_deeper.trans gg) (hr.mono (j := 3) (by decide)) rfl T.m_are_worths T.F_are_worths.kp T.b_are_worths .nil pass0 (pa_cons (pv 0) pa_nil)))) (pss_one ps_never) pss_nil)
    (pss_cons (ps_if (pt_not (pt_val (DG.call_g (ok_is_worth (P := P) (w := w) (base := base) T) (DG.guards_deeper.trans gg) (hr.mono (j := 2) (by decide)) rfl T.m_is_worth T.F_is_worth.kp T.b_is_worth .nil pass0 (pa_cons (pv 1) pa_nil)))) (pss_one ps_never) pss_nil)
    (pss_cons (ps_if (pt_not (pt_val (DG.call_g (ok_is_slope (P := P) (w := w) (base := base) T) (DG.guards_deeper.trans gg) (hr.mono (j := 2) (by decide)) rfl T.m_is_slope T.F_is_slope.kp T.b_is_slope .nil pass0 (pa_cons (pv 1) (pa_cons (pv 2) pa_nil))))) (pss_one ps_never) pss_nil)
    (pss_one (ps_ret (DG.call_g (okT_shortened (P := P) (w := w) (base := base) T) (DG.guards_deeper.trans gg) (hr.mono (j := 2) (by decide)) rfl T.m_shortened T.F_shortened.kp T.b_shortened .nil pass0 (pa_cons (pv 0) (pa_cons (pv 1) (pa_cons (pv 2) pa_nil))))))))),
    body_okT (N := ["first", "start", "slope"]) (ps := ["first", "start", "slope"]) (by decide) (show RST _ (gT_least_run T.c_InvalidList T.c_InvalidNumber) from (rst_seq (rs_if (rt_not (rt_B (re_call (ra_cons re_var ra_nil)))) rs_never rs_next)
    (rst_seq (rs_if (rt_not (rt_B (re_call (ra_cons re_var ra_nil)))) rs_never rs_next)
    (rst_seq (rs_if (rt_not (rt_B (re_call (ra_cons re_var (ra_cons re_var ra_nil))))) rs_never rs_next)
    (rst_ret (rft_call (ra_cons re_var (ra_cons re_var (ra_cons re_var ra_nil))))))))) h⟩
theorem sc_is_run : FnScope ["value", "first", "start", "slope"] ["value"] (defScope s_is_run) := ⟨rfl, rfl, rfl, by decide +kernel, rfl, by decide +kernel, by decide +kernel⟩
noncomputable def g_is_run : SF := (sSeq (sIf (fOr (fNot (fTest (fIsi .tuple (fVar 0)))) (fTest (fOp gNe (fCB (g1 gLen) (fCons (fVar 0) fNil)) (fC (.int (3 : Int)))))) (sRet (fC (.bl false))) sNext)
    (sSeq (sAsg (fVar 0) (fGtup 3 (fGcons (fName 1) (fGcons (fName 2) (fGcons (fName 3) fGnil)))))
    (sSeq (sIf (fOr (fNot (fTest (fCall 1 none F_are_worths (fCons (fVar 1) fNil)))) (fOr (fNot (fTest (fCall 1 none F_is_worth (fCons (fVar 2) fNil)))) (fNot (fTest (fCall 2 none F_is_slope (fCons (fVar 2) (fCons (fVar 3) fNil))))))) (sRet (fC (.bl false))) sNext)
    (sRet (fOrV (fOp gEq (fVar 1) (fLst' fNil)) (fOp gNe (fOp gIx (fVar 1) (fUn gNeg (fC (.int (1 : Int))))) (fCall 2 none F_step_back (fCons (fVar 2) (fCons (fVar 3) fNil)))))))))
noncomputable def F_is_run : FnF := runDef 4 (g_is_run)
theorem ok_is_run (T : Txt P K mg) : DG.FnG P w K mg base CX0 4 T.a_is_run T.d_is_run ["value"] (spD 1 F_is_run) :=
  DG.body0_g (k := 3) T.F_is_run sc_is_run (fun _ _ _ _ h => spD_len h) fun cdv A outer s H vs Q E gg hr h => ⟨_, (pss_cons (ps_if (PW.pt (pw_or (pt_not (pt_val (pe_callB call_isi (by rfl) T.n_isinstance (by decide +kernel) (pa_cons (pv 0) (pa_cons (pe_bltn (v := .ty "tuple") (by rfl) T.n_tuple (by decide +kernel) rfl) pa_nil))))) (pw_or1 (pt_cmpR (opNeU hr.units) (pe_callB callLen (by rfl) T.n_len (by decide +kernel) (pa_cons (pv 0) pa_nil)) pe_int (nomark _))))) (pss_one (ps_ret pe_bl)) pss_nil)
    (pss_cons (ps_asg (pv 0) (pg_tup rfl (pgs_cons (pg_name (i := 1) sc_is_run.nd rfl (Or.inl rfl)) (pgs_cons (pg_name (i := 2) sc_is_run.nd rfl (Or.inl rfl)) (pgs_cons (pg_name (i := 3) sc_is_run.nd rfl (Or.inl rfl)) pgs_nil)))))
    (pss_cons (ps_if (PW.pt (pw_or (pt_not (pt_val (DG.call_g (ok_are_worths (P := P) (w := w) (base := base) T) (DG.guards_deeper.trans gg) (hr.mono (j := 3) (by decide)) rfl T.m_are_worths T.F_are_worths.kp T.b_are_worths .nil pass0 (pa_cons (pv 1) pa_nil)))) (pw_or (pt_not (pt_val (DG.call_g (ok_is_worth (P := P) (w := w) (base := base) T) (DG.guards_deeper.trans gg) (hr.mono (j := 2) (by decide)) rfl T.m_is_worth T.F_is_worth.kp T.b_is_worth .nil pass0 (pa_cons (pv 2) pa_nil)))) (pw_or1 (pt_not (pt_val (DG.call_g (ok_is_slope (P := P) (w := w) (base := base) T) (DG.guards_deeper.trans gg) (hr.mono (j := 2) (by decide)) rfl T.m_is_slope T.F_is_slope.kp T.b_is_slope .nil pass0 (pa_cons (pv 2) (pa_cons (pv 3) pa_nil))))))))) (pss_one (ps_ret pe_bl)) pss_nil)
    (pss_one (ps_ret (pe_or (pe_cmpR (opEqU hr.units) (pv 1) (pe_lst pa_nil) (nomark _)) (pe_one (pe_cmpR (opNeU hr.units) (pe_ix ix_seq (pv 1) (pe_un un_neg pe_int) (fun _ _ => rfl)) (DG.call_g (ok_step_back (P := P) (w := w) (base := base) T) (DG.guards_deeper.trans gg) (hr.mono (j := 1) (by decide)) rfl T.m_step_back T.F_step_back.kp T.b_step_back .nil pass0 (pa_cons (pv 2) (pa_cons (pv 3) pa_nil))) (nomark _))))))))),
    body_ok (N := ["value", "first", "start", "slope"]) (ps := ["value"]) (by decide) (show RS _ (g_is_run) from (rs_seq (rs_if (rt_or (rt_not (rt_B (re_isi .tuple re_var))) (rt_test (re_op rb_ne (re_cb rc_len (ra_cons re_var ra_nil)) re_int))) (rs_ret re_bl) rs_next)
    (rs_seq (rs_asg re_var (rg_tup (rgs_cons (rg_name (i := 1)) (rgs_cons (rg_name (i := 2)) (rgs_cons (rg_name (i := 3)) rgs_nil)))))
    (rs_seq (rs_if (rt_or (rt_not (rt_B (re_call (ra_cons re_var ra_nil)))) (rt_or (rt_not (rt_B (re_call (ra_cons re_var ra_nil)))) (rt_not (rt_B (re_call (ra_cons re_var (ra_cons re_var ra_nil))))))) (rs_ret re_bl) rs_next)
    (rs_ret (re_orV (re_op rb_eq re_var (re_lst ra_nil)) (re_op rb_ne (re_op rb_ix re_var (re_un ru_neg re_int)) (re_call (ra_cons re_var (ra_cons re_var ra_nil)))))))))) h⟩
theorem sc_check_run : FnScope ["run"] ["run"] (defScope s_check_run) := ⟨rfl, rfl, rfl, by decide +kernel, rfl, by decide +kernel, by decide +kernel⟩
noncomputable def gX_check_run (c_InvalidRun : Addr) : SX := (sIfX (fNot (fTest (fCall 1 none F_is_run (fCons (fVar 0) fNil)))) (sRaise c_InvalidRun "value" (fVar 0)) (sOk sNext))
noncomputable def FX_check_run (c_InvalidRun : Addr) : FnX := runX 1 (gX_check_run c_InvalidRun)
theorem okX_check_run (T : Txt P K mg) : DG.FnG P w K mg base (L2.CX P w) 5 T.a_check_run T.d_check_run ["run"] (spX 1 (FX_check_run T.c_InvalidRun)) :=
  DG.body_g (k := 4) T.F_check_run sc_check_run (fun _ _ _ _ h => spX_len h) fun cdv A outer s H vs Q E gg hr h => ⟨_, (pss_one (ps_if (pt_not (pt_val (DG.call_g (ok_is_run (P := P) (w := w) (base := base) T) (DG.guards_deeper.trans gg) (hr.mono (j := 4) (by decide)) rfl T.m_is_run T.F_is_run.kp T.b_is_run .nil pass0 (pa_cons (pv 0) pa_nil)))) (pss_one (ps_raise rfl (takes_of rfl rfl rfl rfl) (mkV T.xc_InvalidRun.ox T.xa_InvalidRun T.xt_InvalidRun (xok_InvalidRun (P := P) (w := w) (base := base) T) (hr.mono (j := 2) (by decide)) (xbd_InvalidRun T) rfl T.mc_InvalidRun (pv 0)))) pss_nil)),
    body_okX (N := ["run"]) (ps := ["run"]) (by decide) (show RSX _ _ (gX_check_run T.c_InvalidRun) from (rsx_if (rt_not (rt_B (re_call (ra_cons re_var ra_nil)))) (rsx_raise re_var) (rsx_of rs_next))) h⟩
noncomputable def F_check_run (c_InvalidRun : Addr) : FnF := unX (FX_check_run c_InvalidRun)
theorem ok_check_run (T : Txt P K mg) : DG.FnG P w K mg base CX0 5 T.a_check_run T.d_check_run ["run"] (spD 1 (F_check_run T.c_InvalidRun)) := noX (okX_check_run T)
theorem sc_is_between : FnScope ["value", "low", "high"] ["value", "low", "high"] (defScope s_is_between) := ⟨rfl, rfl, rfl, by decide +kernel, rfl, by decide +kernel, by decide +kernel⟩
noncomputable def g_is_between : SF := (sRet (fAndV (fCall 1 none F_is_whole (fCons (fVar 0) fNil)) (fAndV (fOp gLe (fVar 1) (fVar 0)) (fOrV (fOp (gIs false) (fVar 2) (fC .non)) (fOp gLe (fVar 0) (fVar 2))))))
noncomputable def F_is_between : FnF := runDef 3 (g_is_between)
theorem ok_is_between (T : Txt P K mg) : DG.FnG P w K mg base CX0 2 T.a_is_between T.d_is_between ["value", "low", "high"] (spD 3 F_is_between) :=
  DG.body0_g (k := 1) T.F_is_between sc_is_between (fun _ _ _ _ h => spD_len h) fun cdv A outer s H vs Q E gg hr h => ⟨_, (pss_one (ps_ret (pe_and (DG.call_g (ok_is_whole (P := P) (w := w) (base := base) T) (DG.guards_deeper.trans gg) (hr.mono (j := 1) (by decide)) rfl T.m_is_whole T.F_is_whole.kp T.b_is_whole .nil pass0 (pa_cons (pv 0) pa_nil)) (pe_and (pe_cmpR opLe (pv 1) (pv 0) (nomark _)) (pe_one (pe_or (pe_cmpR opIs (pv 2) pe_non (nomark _)) (pe_one (pe_cmpR opLe (pv 0) (pv 2) (nomark _))))))))),
    body_ok (N := ["value", "low", "high"]) (ps := ["value", "low", "high"]) (by decide) (show RS _ (g_is_between) from (rs_ret (re_andV (re_call (ra_cons re_var ra_nil)) (re_andV (re_op rb_le re_var re_var) (re_orV (re_op rb_is re_var re_non) (re_op rb_le re_var re_var)))))) h⟩
theorem sc_check_number : FnScope ["number", "low", "high"] ["number", "low", "high"] (defScope s_check_number) := ⟨rfl, rfl, rfl, by decide +kernel, rfl, by decide +kernel, by decide +kernel⟩
noncomputable def gX_check_number (c_InvalidNumber : Addr) : SX := (sIfX (fNot (fTest (fCall 3 none F_is_between (fCons (fVar 0) (fCons (fVar 1) (fCons (fVar 2) fNil)))))) (sRaise c_InvalidNumber "value" (fVar 0)) (sOk sNext))
noncomputable def FX_check_number (c_InvalidNumber : Addr) : FnX := runX 3 (gX_check_number c_InvalidNumber)
theorem okX_check_number (T : Txt P K mg) : DG.FnG P w K mg base (L2.CX P w) 3 T.a_check_number T.d_check_number ["number", "low", "high"] (spX 3 (FX_check_number T.c_InvalidNumber)) :=
  DG.body_g (k := 2) T.F_check_number sc_check_number (fun _ _ _ _ h => spX_len h) fun cdv A outer s H vs Q E gg hr h => ⟨_, (pss_one (ps_if (pt_not (pt_val (DG.call_g (ok_is_between (P := P) (w := w) (base := base) T) (DG.guards_deeper.trans gg) (hr.mono (j := 2) (by decide)) rfl T.m_is_between T.F_is_between.kp T.b_is_between .nil pass0 (pa_cons (pv 0) (pa_cons (pv 1) (pa_cons (pv 2) pa_nil)))))) (pss_one (ps_raise rfl (takes_of rfl rfl rfl rfl) (mkV T.xc_InvalidNumber.ox T.xa_InvalidNumber T.xt_InvalidNumber (xok_InvalidNumber (P := P) (w := w) (base := base) T) (hr.mono (j := 2) (by decide)) (xbd_InvalidNumber T) rfl T.mc_InvalidNumber (pv 0)))) pss_nil)),
    body_okX (N := ["number", "low", "high"]) (ps := ["number", "low", "high"]) (by decide) (show RSX _ _ (gX_check_number T.c_InvalidNumber) from (rsx_if (rt_not (rt_B (re_call (ra_cons re_var (ra_cons re_var (ra_cons re_var ra_nil)))))) (rsx_raise re_var) (rsx_of rs_next))) h⟩
noncomputable def F_check_number (c_InvalidNumber : Addr) : FnF := unX (FX_check_number c_InvalidNumber)
theorem ok_check_number (T : Txt P K mg) : DG.FnG P w K mg base CX0 3 T.a_check_number T.d_check_number ["number", "low", "high"] (spD 3 (F_check_number T.c_InvalidNumber)) := noX (okX_check_number T)
theorem sc_value_of : FnScope ["run", "number", "first", "start", "slope"] ["run", "number"] (defScope s_value_of) := ⟨rfl, rfl, rfl, by decide +kernel, rfl, by decide +kernel, by decide +kernel⟩
noncomputable def g_value_of : SF := (sSeq (sAsg (fVar 0) (fGtup 3 (fGcons (fName 2) (fGcons (fName 3) (fGcons (fName 4) fGnil)))))
    (sSeq (sIf (fTest (fOp gLt (fVar 1) (fCB (g1 gLen) (fCons (fVar 2) fNil)))) (sRet (fOp gIx (fVar 2) (fVar 1))) sNext)
    (sSeq (sIf (fTest (fOp (gIs false) (fVar 3) (fC .non))) (sRet (fC .non)) sNext)
    (sRet (fOp gAdd (fVar 3) (fOp gMul (fVar 4) (fOp gMinus (fVar 1) (fCB (g1 gLen) (fCons (fVar 2) fNil)))))))))
noncomputable def F_value_of : FnF := runDef 5 (g_value_of)
theorem ok_value_of (T : Txt P K mg) : DG.FnG P w K mg base CX0 1 T.a_value_of T.d_value_of ["run", "number"] (spD 2 F_value_of) :=
  DG.body0_g (k := 0) T.F_value_of sc_value_of (fun _ _ _ _ h => spD_len h) fun cdv A outer s H vs Q E gg hr h => ⟨_, (pss_cons (ps_asg (pv 0) (pg_tup rfl (pgs_cons (pg_name (i := 2) sc_value_of.nd rfl (Or.inl rfl)) (pgs_cons (pg_name (i := 3) sc_value_of.nd rfl (Or.inl rfl)) (pgs_cons (pg_name (i := 4) sc_value_of.nd rfl (Or.inl rfl)) pgs_nil)))))
    (pss_cons (ps_if (pt_cmpR opLt (pv 1) (pe_callB callLen (by rfl) T.n_len (by decide +kernel) (pa_cons (pv 2) pa_nil)) (nomark _)) (pss_one (ps_ret (pe_ix ix_seq (pv 2) (pv 1) (fun _ _ => rfl)))) pss_nil)
    (pss_cons (ps_if (pt_cmpR opIs (pv 3) pe_non (nomark _)) (pss_one (ps_ret pe_non)) pss_nil)
    (pss_one (ps_ret (pe_op opAdd (pv 3) (pe_op opMul (pv 4) (pe_op op_sub (pv 1) (pe_callB callLen (by rfl) T.n_len (by decide +kernel) (pa_cons (pv 2) pa_nil)))))))))),
    body_ok (N := ["run", "number", "first", "start", "slope"]) (ps := ["run", "number"]) (by decide) (show RS _ (g_value_of) from (rs_seq (rs_asg re_var (rg_tup (rgs_cons (rg_name (i := 2)) (rgs_cons (rg_name (i := 3)) (rgs_cons (rg_name (i := 4)) rgs_nil)))))
    (rs_seq (rs_if (rt_test (re_op rb_lt re_var (re_cb rc_len (ra_cons re_var ra_nil)))) (rs_ret (re_op rb_ix re_var re_var)) rs_next)
    (rs_seq (rs_if (rt_test (re_op rb_is re_var re_non)) (rs_ret re_non) rs_next)
    (rs_ret (re_op rb_add re_var (re_op rb_mul re_var (re_op rb_sub re_var (re_cb rc_len (ra_cons re_var ra_nil)))))))))) h⟩
theorem sc_run_value : FnScope ["run", "number"] ["run", "number"] (defScope s_run_value) := ⟨rfl, rfl, rfl, by decide +kernel, rfl, by decide +kernel, by decide +kernel⟩
noncomputable def gX_run_value (c_InvalidNumber : Addr) (c_InvalidRun : Addr) : SX := (sSeqX (sDropX (fCallX 1 (FX_check_run c_InvalidRun) (fCons (fVar 0) fNil)))
    (sSeqX (sDropX (fCallX 3 (FX_check_number c_InvalidNumber) (fCons (fVar 1) (fCons (fC (.int (0 : Int))) (fCons (fC .non) fNil)))))
    (sOk (sRet (fCall 2 none F_value_of (fCons (fVar 0) (fCons (fVar 1) fNil)))))))
noncomputable def FX_run_value (c_InvalidNumber : Addr) (c_InvalidRun : Addr) : FnX := runX 2 (gX_run_value c_InvalidNumber c_InvalidRun)
theorem okX_run_value (T : Txt P K mg) : DG.FnG P w K mg base (L2.CX P w) 6 T.a_run_value T.d_run_value ["run", "number"] (spX 2 (FX_run_value T.c_InvalidNumber T.c_InvalidRun)) :=
  DG.body_g (k := 5) T.F_run_value sc_run_value (fun _ _ _ _ h => spX_len h) fun cdv A outer s H vs Q E gg hr h => ⟨_, (pss_cons (ps_expr (DG.callS_g (okX_check_run (P := P) (w := w) (base := base) T) (DG.guards_deeper.trans gg) (hr.mono (j := 5) (by decide)) rfl T.m_check_run T.F_check_run.kp T.b_check_run .nil (fun σ => passAt (takes_of rfl rfl rfl rfl) σ) (pa_cons (pv 0) pa_nil)))
    (pss_cons (ps_expr (DG.callS_g (okX_check_number (P := P) (w := w) (base := base) T) (DG.guards_deeper.trans gg) (hr.mono (j := 3) (by decide)) rfl T.m_check_number T.F_check_number.kp T.b_check_number .nil (fun σ => passAt (takes_of rfl rfl rfl rfl) σ) (pa_cons (pv 1) (pa_cons pe_int (pa_cons pe_non pa_nil)))))
    (pss_one (ps_ret (DG.call_g (ok_value_of (P := P) (w := w) (base := base) T) (DG.guards_deeper.trans gg) (hr.mono (j := 1) (by decide)) rfl T.m_value_of T.F_value_of.kp T.b_value_of .nil pass0 (pa_cons (pv 0) (pa_cons (pv 1) pa_nil))))))),
    body_okX (N := ["run", "number"]) (ps := ["run", "number"]) (by decide) (show RSX _ _ (gX_run_value T.c_InvalidNumber T.c_InvalidRun) from (rsx_seq (rsx_drop (re_callX (ra_cons re_var ra_nil)))
    (rsx_seq (rsx_drop (re_callX (ra_cons re_var (ra_cons re_int (ra_cons re_non ra_nil)))))
    (rsx_of (rs_ret (re_call (ra_cons re_var (ra_cons re_var ra_nil)))))))) h⟩
noncomputable def F_run_value (c_InvalidNumber : Addr) (c_InvalidRun : Addr) : FnF := unX (FX_run_value c_InvalidNumber c_InvalidRun)
theorem ok_run_value (T : Txt P K mg) : DG.FnG P w K mg base CX0 6 T.a_run_value T.d_run_value ["run", "number"] (spD 2 (F_run_value T.c_InvalidNumber T.c_InvalidRun)) := noX (okX_run_value T)
theorem sc_law_caught : FnScope ["_law_which", "_law_given", "_law_error", "e"] ["_law_which", "_law_given"] (defScope s_law_caught) := ⟨rfl, rfl, rfl, by decide +kernel, rfl, by decide +kernel, by decide +kernel⟩
noncomputable def g_law_caught (c_InvalidList : Addr) (c_InvalidNumber : Addr) (c_InvalidRun : Addr) : SF := (sSeq (sAsg (fC .non) (fName 2))
    (sSeq (sTry 3 2 [c_InvalidList, c_InvalidNumber, c_InvalidRun] (sIfX (fTest (fOp gEq (fVar 0) (fC (.int (0 : Int))))) (sDropX (fCallX 3 (FX_least_run c_InvalidList c_InvalidNumber) (fCons (fOp gIx (fVar 1) (fC (.int (0 : Int)))) (fCons (fOp gIx (fVar 1) (fC (.int (1 : Int)))) (fCons (fOp gIx (fVar 1) (fC (.int (2 : Int)))) fNil))))) (sDropX (fCallX 2 (FX_run_value c_InvalidNumber c_InvalidRun) (fCons (fOp gIx (fVar 1) (fC (.int (0 : Int)))) (fCons (fOp gIx (fVar 1) (fC (.int (1 : Int)))) fNil))))))
    (sSeq (sIf (fAnd (fTest (fIsX [(c_InvalidList, true), (c_InvalidNumber, false), (c_InvalidRun, false)] (fVar 2))) (fNot (fTest (fIsXT [c_InvalidNumber, c_InvalidRun] [(c_InvalidList, false), (c_InvalidNumber, true), (c_InvalidRun, true)] (fVar 2) (fTup' (fCons (fC (.cls c_InvalidNumber)) (fCons (fC (.cls c_InvalidRun)) fNil))))))) (sRet (fLst' (fCons (fC (.str "list")) (fCons (fCB (g1 gRepr) (fCons (fXv [c_InvalidList, c_InvalidNumber, c_InvalidRun] "value" (fVar 2)) fNil)) fNil)))) sNext)
    (sSeq (sIf (fAnd (fTest (fIsX [(c_InvalidList, false), (c_InvalidNumber, true), (c_InvalidRun, false)] (fVar 2))) (fNot (fTest (fIsXT [c_InvalidList, c_InvalidRun] [(c_InvalidList, true), (c_InvalidNumber, false), (c_InvalidRun, true)] (fVar 2) (fTup' (fCons (fC (.cls c_InvalidList)) (fCons (fC (.cls c_InvalidRun)) fNil))))))) (sRet (fLst' (fCons (fC (.str "number")) (fCons (fCB (g1 gRepr) (fCons (fXv [c_InvalidList, c_InvalidNumber, c_InvalidRun] "value" (fVar 2)) fNil)) fNil)))) sNext)
    (sSeq (sIf (fAnd (fTest (fIsX [(c_InvalidList, false), (c_InvalidNumber, false), (c_InvalidRun, true)] (fVar 2))) (fNot (fTest (fIsXT [c_InvalidList, c_InvalidNumber] [(c_InvalidList, true), (c_InvalidNumber, true), (c_InvalidRun, false)] (fVar 2) (fTup' (fCons (fC (.cls c_InvalidList)) (fCons (fC (.cls c_InvalidNumber)) fNil))))))) (sRet (fLst' (fCons (fC (.str "run")) (fCons (fCB (g1 gRepr) (fCons (fXv [c_InvalidList, c_InvalidNumber, c_InvalidRun] "value" (fVar 2)) fNil)) fNil)))) sNext)
    (sRet (fLst' (fCons (fC (.str "none")) (fCons (fC (.str "")) fNil)))))))))
noncomputable def F_law_caught (c_InvalidList : Addr) (c_InvalidNumber : Addr) (c_InvalidRun : Addr) : FnF := runDef 4 (g_law_caught c_InvalidList c_InvalidNumber c_InvalidRun)
theorem ok_law_caught (T : Txt P K mg) : DG.FnG P w K mg base CX0 7 T.a_law_caught T.d_law_caught ["_law_which", "_law_given"] (spD 2 (F_law_caught T.c_InvalidList T.c_InvalidNumber T.c_InvalidRun)) :=
  DG.body0_g (k := 6) T.F_law_caught sc_law_caught (fun _ _ _ _ h => spD_len h) fun cdv A outer s H vs Q E gg hr h => ⟨_, (pss_cons (ps_set (i := 2) sc_law_caught.nd rfl (Or.inl rfl) pe_non)
    (pss_cons (ps_try_keep (i := 3) (j := 2) (c := .ref T.c_CountError) rfl rfl rfl sc_law_caught.nd rfl rfl rfl rfl ⟨by rfl, by decide, .inl T.mc_CountError⟩ (fun W pn xe tk po => (pss_one (ps_if (pt_cmpR (opEqU hr.units) (pv 0) pe_int (nomark _)) (pss_one (ps_expr (DG.callS_g (okX_least_run (P := P) (w := w) (base := base) T) (DG.guards_deeper.trans gg) (hr.mono (j := 4) (by decide)) rfl T.m_least_run T.F_least_run.kp T.b_least_run .nil (fun σ => passAt tk σ) (pa_cons (pe_ix ix_seq (pv 1) pe_int (fun _ _ => rfl)) (pa_cons (pe_ix ix_seq (pv 1) pe_int (fun _ _ => rfl)) (pa_cons (pe_ix ix_seq (pv 1) pe_int (fun _ _ => rfl)) pa_nil)))))) (pss_one (ps_expr (DG.callS_g (okX_run_value (P := P) (w := w) (base := base) T) (DG.guards_deeper.trans gg) (hr.mono (j := 6) (by decide)) rfl T.m_run_value T.F_run_value.kp T.b_run_value .nil (fun σ => passAt tk σ) (pa_cons (pe_ix ix_seq (pv 1) pe_int (fun _ _ => rfl)) (pa_cons (pe_ix ix_seq (pv 1) pe_int (fun _ _ => rfl)) pa_nil)))))))) (show (3 : Nat) < 4 by decide))
    (pss_cons (ps_if (PW.pt (pw_and (pt_val (pe_callB call_isX (by rfl) T.n_isinstance (by decide +kernel) (pa_cons (pv 2) (pa_cons (pe_glob (v := .ref T.c_InvalidList) rfl T.mc_InvalidList rfl) pa_nil)))) (pw_and1 (pt_not (pt_val (pe_callB call_isXT (by rfl) T.n_isinstance (by decide +kernel) (pa_cons (pv 2) (pa_cons (pe_tup (pa_cons (pe_glob (v := .ref T.c_InvalidNumber) rfl T.mc_InvalidNumber rfl) (pa_cons (pe_glob (v := .ref T.c_InvalidRun) rfl T.mc_InvalidRun rfl) pa_nil))) pa_nil)))))))) (pss_one (ps_ret (pe_lst (pa_cons pe_str (pa_cons (pe_callB (callRepr (DG.guards_deeper.trans gg) (hu70 hr)) (by rfl) T.n_repr (by decide +kernel) (pa_cons (pe_xv (pv 2) (by rfl)) pa_nil)) pa_nil))))) pss_nil)
    (pss_cons (ps_if (PW.pt (pw_and (pt_val (pe_callB call_isX (by rfl) T.n_isinstance (by decide +kernel) (pa_cons (pv 2) (pa_cons (pe_glob (v := .ref T.c_InvalidNumber) rfl T.mc_InvalidNumber rfl) pa_nil)))) (pw_and1 (pt_not (pt_val (pe_callB call_isXT (by rfl) T.n_isinstance (by decide +kernel) (pa_cons (pv 2) (pa_cons (pe_tup (pa_cons (pe_glob (v := .ref T.c_InvalidList) rfl T.mc_InvalidList rfl) (pa_cons (pe_glob (v := .ref T.c_InvalidRun) rfl T.mc_InvalidRun rfl) pa_nil))) pa_nil)))))))) (pss_one (ps_ret (pe_lst (pa_cons pe_str (pa_cons (pe_callB (callRepr (DG.guards_deeper.trans gg) (hu70 hr)) (by rfl) T.n_repr (by decide +kernel) (pa_cons (pe_xv (pv 2) (by rfl)) pa_nil)) pa_nil))))) pss_nil)
    (pss_cons (ps_if (PW.pt (pw_and (pt_val (pe_callB call_isX (by rfl) T.n_isinstance (by decide +kernel) (pa_cons (pv 2) (pa_cons (pe_glob (v := .ref T.c_InvalidRun) rfl T.mc_InvalidRun rfl) pa_nil)))) (pw_and1 (pt_not (pt_val (pe_callB call_isXT (by rfl) T.n_isinstance (by decide +kernel) (pa_cons (pv 2) (pa_cons (pe_tup (pa_cons (pe_glob (v := .ref T.c_InvalidList) rfl T.mc_InvalidList rfl) (pa_cons (pe_glob (v := .ref T.c_InvalidNumber) rfl T.mc_InvalidNumber rfl) pa_nil))) pa_nil)))))))) (pss_one (ps_ret (pe_lst (pa_cons pe_str (pa_cons (pe_callB (callRepr (DG.guards_deeper.trans gg) (hu70 hr)) (by rfl) T.n_repr (by decide +kernel) (pa_cons (pe_xv (pv 2) (by rfl)) pa_nil)) pa_nil))))) pss_nil)
    (pss_one (ps_ret (pe_lst (pa_cons pe_str (pa_cons pe_str pa_nil)))))))))),
    body_ok (N := ["_law_which", "_law_given", "_law_error", "e"]) (ps := ["_law_which", "_law_given"]) (by decide) (show RS _ (g_law_caught T.c_InvalidList T.c_InvalidNumber T.c_InvalidRun) from (rs_seq (rs_asg re_non (rg_name (i := 2)))
    (rs_seq (rs_try (xtb T) (fun W => (rsx_if (rt_test (re_op rb_eq re_var re_int)) (rsx_drop (re_callX (ra_cons (re_op rb_ix re_var re_int) (ra_cons (re_op rb_ix re_var re_int) (ra_cons (re_op rb_ix re_var re_int) ra_nil))))) (rsx_drop (re_callX (ra_cons (re_op rb_ix re_var re_int) (ra_cons (re_op rb_ix re_var re_int) ra_nil)))))))
    (rs_seq (rs_if (rt_and (rt_B (re_isX (xis_InvalidList T) T.x0_InvalidList re_var)) (rt_not (rt_B (re_isXT (xit_InvalidNumber_InvalidRun T) (xi0_InvalidNumber_InvalidRun T) re_var (re_tup (ra_cons re_cls (ra_cons re_cls ra_nil))))))) (rs_ret (re_lst (ra_cons re_str (ra_cons (re_cb rc_repr (ra_cons (re_xv (xfl T) re_var) ra_nil)) ra_nil)))) rs_next)
    (rs_seq (rs_if (rt_and (rt_B (re_isX (xis_InvalidNumber T) T.x0_InvalidNumber re_var)) (rt_not (rt_B (re_isXT (xit_InvalidList_InvalidRun T) (xi0_InvalidList_InvalidRun T) re_var (re_tup (ra_cons re_cls (ra_cons re_cls ra_nil))))))) (rs_ret (re_lst (ra_cons re_str (ra_cons (re_cb rc_repr (ra_cons (re_xv (xfl T) re_var) ra_nil)) ra_nil)))) rs_next)
    (rs_seq (rs_if (rt_and (rt_B (re_isX (xis_InvalidRun T) T.x0_InvalidRun re_var)) (rt_not (rt_B (re_isXT (xit_InvalidList_InvalidNumber T) (xi0_InvalidList_InvalidNumber T) re_var (re_tup (ra_cons re_cls (ra_cons re_cls ra_nil))))))) (rs_ret (re_lst (ra_cons re_str (ra_cons (re_cb rc_repr (ra_cons (re_xv (xfl T) re_var) ra_nil)) ra_nil)))) rs_next)
    (rs_ret (re_lst (ra_cons re_str (ra_cons re_str ra_nil)))))))))) h⟩
theorem sc_law_refused : FnScope ["_law_bad", "_law_odds"] [] (defScope s_law_refused) := ⟨rfl, rfl, rfl, by decide +kernel, rfl, by decide +kernel, by decide +kernel⟩
noncomputable def g_law_refused (c_InvalidList : Addr) (c_InvalidNumber : Addr) (c_InvalidRun : Addr) : SF := (sSeq (sFor (fSeqIt (fLst' (fCons (fC .non) (fCons (fTup' fNil) (fCons (fTup' (fCons (fC (.int (1 : Int))) fNil)) (fCons (fC (.str "1")) (fCons (fLst' (fCons (fC (.bl true)) fNil)) (fCons (fLst' (fCons (fC (.str "1")) fNil)) (fCons (fLst' (fCons (fLst' (fCons (fC (.int (1 : Int))) fNil)) fNil)) (fCons (fLst' (fCons (fC (.int (1 : Int))) (fCons (fC .non) (fCons (fTup' (fCons (fC (.int (2 : Int))) fNil)) fNil)))) (fCons (fC (.int (5 : Int))) fNil))))))))))) (fName 0) (sIf (fTest (fOp gNe (fCall 2 none (F_law_caught c_InvalidList c_InvalidNumber c_InvalidRun) (fCons (fC (.int (0 : Int))) (fCons (fLst' (fCons (fVar 0) (fCons (fC (.str "a")) (fCons (fC (.str "b")) fNil)))) fNil))) (fLst' (fCons (fC (.str "list")) (fCons (fCB (g1 gRepr) (fCons (fVar 0) fNil)) fNil))))) (sRet (fC (.bl false))) sNext))
    (sSeq (sFor (fSeqIt (fLst' (fCons (fC (.str "1")) (fCons (fC (.bl true)) (fCons (fLst' (fCons (fC (.int (1 : Int))) fNil)) (fCons (fTup' (fCons (fC (.int (1 : Int))) fNil)) (fCons (fLst' (fCons (fC .non) fNil)) fNil))))))) (fName 0) (sIf (fTest (fOp gNe (fCall 2 none (F_law_caught c_InvalidList c_InvalidNumber c_InvalidRun) (fCons (fC (.int (0 : Int))) (fCons (fLst' (fCons (fLst' (fCons (fC (.int (1 : Int))) (fCons (fC .non) fNil))) (fCons (fVar 0) (fCons (fC (.str "b")) fNil)))) fNil))) (fLst' (fCons (fC (.str "number")) (fCons (fCB (g1 gRepr) (fCons (fVar 0) fNil)) fNil))))) (sRet (fC (.bl false))) sNext))
    (sSeq (sFor (fSeqIt (fLst' (fCons (fC .non) (fCons (fC (.str "1")) (fCons (fC (.bl false)) (fCons (fLst' (fCons (fC (.int (1 : Int))) fNil)) fNil)))))) (fName 0) (sIf (fTest (fOp gNe (fCall 2 none (F_law_caught c_InvalidList c_InvalidNumber c_InvalidRun) (fCons (fC (.int (0 : Int))) (fCons (fLst' (fCons (fLst' (fCons (fC (.int (1 : Int))) fNil)) (fCons (fC (.int (3 : Int))) (fCons (fVar 0) fNil)))) fNil))) (fLst' (fCons (fC (.str "number")) (fCons (fCB (g1 gRepr) (fCons (fVar 0) fNil)) fNil))))) (sRet (fC (.bl false))) sNext))
    (sSeq (sFor (fSeqIt (fLst' (fCons (fC (.int (1 : Int))) (fCons (fUn gNeg (fC (.int (1 : Int)))) (fCons (fC .non) (fCons (fC (.bl true)) (fCons (fC (.bl false)) fNil))))))) (fName 0) (sIf (fTest (fOp gNe (fCall 2 none (F_law_caught c_InvalidList c_InvalidNumber c_InvalidRun) (fCons (fC (.int (0 : Int))) (fCons (fLst' (fCons (fLst' (fCons (fC (.int (1 : Int))) fNil)) (fCons (fC .non) (fCons (fVar 0) fNil)))) fNil))) (fLst' (fCons (fC (.str "number")) (fCons (fCB (g1 gRepr) (fCons (fVar 0) fNil)) fNil))))) (sRet (fC (.bl false))) sNext))
    (sSeq (sAsg (fLst' (fCons (fC .non) (fCons (fC (.int (7 : Int))) (fCons (fLst' fNil) (fCons (fTup' (fCons (fLst' fNil) (fCons (fC (.int (1 : Int))) fNil))) (fCons (fTup' (fCons (fLst' fNil) (fCons (fC (.int (1 : Int))) (fCons (fC (.int (0 : Int))) (fCons (fC (.int (0 : Int))) fNil))))) (fCons (fLst' (fCons (fLst' fNil) (fCons (fC (.int (1 : Int))) (fCons (fC (.int (0 : Int))) fNil)))) (fCons (fTup' (fCons (fTup' fNil) (fCons (fC (.int (1 : Int))) (fCons (fC (.int (0 : Int))) fNil)))) (fCons (fTup' (fCons (fLst' fNil) (fCons (fC (.bl true)) (fCons (fC (.int (0 : Int))) fNil)))) (fCons (fTup' (fCons (fLst' fNil) (fCons (fC (.int (1 : Int))) (fCons (fC (.bl false)) fNil)))) (fCons (fTup' (fCons (fLst' fNil) (fCons (fC .non) (fCons (fC (.int (1 : Int))) fNil)))) fNil))))))))))) (fName 1))
    (sSeq (sFor (fSeqIt (fOp gAdd (fVar 1) (fLst' (fCons (fTup' (fCons (fLst' fNil) (fCons (fC .non) (fCons (fC (.bl false)) fNil)))) (fCons (fTup' (fCons (fLst' (fCons (fC (.bl true)) fNil)) (fCons (fC (.int (4 : Int))) (fCons (fC (.int (0 : Int))) fNil)))) (fCons (fTup' (fCons (fLst' (fCons (fC .non) fNil)) (fCons (fC .non) (fCons (fC (.int (0 : Int))) fNil)))) (fCons (fTup' (fCons (fLst' (fCons (fC (.int (2 : Int))) (fCons (fC (.int (1 : Int))) fNil))) (fCons (fC (.int (4 : Int))) (fCons (fC (.int (3 : Int))) fNil)))) (fCons (fTup' (fCons (fLst' (fCons (fC (.int (0 : Int))) fNil)) (fCons (fC (.int (0 : Int))) (fCons (fC (.int (0 : Int))) fNil)))) (fCons (fTup' (fCons (fC (.str "ab")) (fCons (fC (.int (1 : Int))) (fCons (fC (.int (2 : Int))) fNil)))) fNil))))))))) (fName 0) (sIf (fOr (fTest (fOp (gIs true) (fCall 1 none F_is_run (fCons (fVar 0) fNil)) (fC (.bl false)))) (fTest (fOp gNe (fCall 2 none (F_law_caught c_InvalidList c_InvalidNumber c_InvalidRun) (fCons (fC (.int (1 : Int))) (fCons (fLst' (fCons (fVar 0) (fCons (fC .non) fNil))) fNil))) (fLst' (fCons (fC (.str "run")) (fCons (fCB (g1 gRepr) (fCons (fVar 0) fNil)) fNil)))))) (sRet (fC (.bl false))) sNext))
    (sSeq (sFor (fSeqIt (fLst' (fCons (fC .non) (fCons (fUn gNeg (fC (.int (1 : Int)))) (fCons (fC (.bl true)) (fCons (fC (.str "0")) (fCons (fLst' (fCons (fC (.int (0 : Int))) fNil)) fNil))))))) (fName 0) (sIf (fTest (fOp gNe (fCall 2 none (F_law_caught c_InvalidList c_InvalidNumber c_InvalidRun) (fCons (fC (.int (1 : Int))) (fCons (fLst' (fCons (fTup' (fCons (fLst' (fCons (fC .non) (fCons (fC (.int (5 : Int))) fNil))) (fCons (fC (.int (4 : Int))) (fCons (fUn gNeg (fC (.int (2 : Int)))) fNil)))) (fCons (fVar 0) fNil))) fNil))) (fLst' (fCons (fC (.str "number")) (fCons (fCB (g1 gRepr) (fCons (fVar 0) fNil)) fNil))))) (sRet (fC (.bl false))) sNext))
    (sRet (fC (.bl true))))))))))
noncomputable def F_law_refused (c_InvalidList : Addr) (c_InvalidNumber : Addr) (c_InvalidRun : Addr) : FnF := runDef 2 (g_law_refused c_InvalidList c_InvalidNumber c_InvalidRun)
theorem ok_law_refused (T : Txt P K mg) : DG.FnG P w K mg base CX0 8 T.a_law_refused T.d_law_refused [] (spD 0 (F_law_refused T.c_InvalidList T.c_InvalidNumber T.c_InvalidRun)) :=
  DG.body0_g (k := 7) T.F_law_refused sc_law_refused (fun _ _ _ _ h => spD_len h) fun cdv A outer s H vs Q E gg hr h => ⟨_, (pss_cons (ps_for PassesOwn.never rfl (pi_seq (pe_lst (pa_cons pe_non (pa_cons (pe_tup pa_nil) (pa_cons (pe_tup (pa_cons pe_int pa_nil)) (pa_cons pe_str (pa_cons (pe_lst (pa_cons pe_bl pa_nil)) (pa_cons (pe_lst (pa_cons pe_str pa_nil)) (pa_cons (pe_lst (pa_cons (pe_lst (pa_cons pe_int pa_nil)) pa_nil)) (pa_cons (pe_lst (pa_cons pe_int (pa_cons pe_non (pa_cons (pe_tup (pa_cons pe_int pa_nil)) pa_nil)))) (pa_cons pe_int pa_nil))))))))))) (pg_name (i := 0) sc_law_refused.nd rfl (Or.inl rfl)) (pss_one (ps_if (pt_cmpR (opNeU hr.units) (DG.call_g (ok_law_caught (P := P) (w := w) (base := base) T) (DG.guards_deeper.trans gg) (hr.mono (j := 7) (by decide)) rfl T.m_law_caught T.F_law_caught.kp T.b_law_caught .nil pass0 (pa_cons pe_int (pa_cons (pe_lst (pa_cons (pv 0) (pa_cons pe_str (pa_cons pe_str pa_nil)))) pa_nil))) (pe_lst (pa_cons pe_str (pa_cons (pe_callB (callRepr (DG.guards_deeper.trans gg) (hu70 hr)) (by rfl) T.n_repr (by decide +kernel) (pa_cons (pv 0) pa_nil)) pa_nil))) (nomark _)) (pss_one (ps_ret pe_bl)) pss_nil)))
    (pss_cons (ps_for PassesOwn.never rfl (pi_seq (pe_lst (pa_cons pe_str (pa_cons pe_bl (pa_cons (pe_lst (pa_cons pe_int pa_nil)) (pa_cons (pe_tup (pa_cons pe_int pa_nil)) (pa_cons (pe_lst (pa_cons pe_non pa_nil)) pa_nil))))))) (pg_name (i := 0) sc_law_refused.nd rfl (Or.inl rfl)) (pss_one (ps_if (pt_cmpR (opNeU hr.units) (DG.call_g (ok_law_caught (P := P) (w := w) (base := base) T) (DG.guards_deeper.trans gg) (hr.mono (j := 7) (by decide)) rfl T.m_law_caught T.F_law_caught.kp T.b_law_caught .nil pass0 (pa_cons pe_int (pa_cons (pe_lst (pa_cons (pe_lst (pa_cons pe_int (pa_cons pe_non pa_nil))) (pa_cons (pv 0) (pa_cons pe_str pa_nil)))) pa_nil))) (pe_lst (pa_cons pe_str (pa_cons (pe_callB (callRepr (DG.guards_deeper.trans gg) (hu70 hr)) (by rfl) T.n_repr (by decide +kernel) (pa_cons (pv 0) pa_nil)) pa_nil))) (nomark _)) (pss_one (ps_ret pe_bl)) pss_nil)))
    (pss_cons (ps_for PassesOwn.never rfl (pi_seq (pe_lst (pa_cons pe_non (pa_cons pe_str (pa_cons pe_bl (pa_cons (pe_lst (pa_cons pe_int pa_nil)) pa_nil)))))) (pg_name (i := 0) sc_law_refused.nd rfl (Or.inl rfl)) (pss_one (ps_if (pt_cmpR (opNeU hr.units) (DG.call_g (ok_law_caught (P := P) (w := w) (base := base) T) (DG.guards_deeper.trans gg) (hr.mono (j := 7) (by decide)) rfl T.m_law_caught T.F_law_caught.kp T.b_law_caught .nil pass0 (pa_cons pe_int (pa_cons (pe_lst (pa_cons (pe_lst (pa_cons pe_int pa_nil)) (pa_cons pe_int (pa_cons (pv 0) pa_nil)))) pa_nil))) (pe_lst (pa_cons pe_str (pa_cons (pe_callB (callRepr (DG.guards_deeper.trans gg) (hu70 hr)) (by rfl) T.n_repr (by decide +kernel) (pa_cons (pv 0) pa_nil)) pa_nil))) (nomark _)) (pss_one (ps_ret pe_bl)) pss_nil)))
    (pss_cons (ps_for PassesOwn.never rfl (pi_seq (pe_lst (pa_cons pe_int (pa_cons (pe_un un_neg pe_int) (pa_cons pe_non (pa_cons pe_bl (pa_cons pe_bl pa_nil))))))) (pg_name (i := 0) sc_law_refused.nd rfl (Or.inl rfl)) (pss_one (ps_if (pt_cmpR (opNeU hr.units) (DG.call_g (ok_law_caught (P := P) (w := w) (base := base) T) (DG.guards_deeper.trans gg) (hr.mono (j := 7) (by decide)) rfl T.m_law_caught T.F_law_caught.kp T.b_law_caught .nil pass0 (pa_cons pe_int (pa_cons (pe_lst (pa_cons (pe_lst (pa_cons pe_int pa_nil)) (pa_cons pe_non (pa_cons (pv 0) pa_nil)))) pa_nil))) (pe_lst (pa_cons pe_str (pa_cons (pe_callB (callRepr (DG.guards_deeper.trans gg) (hu70 hr)) (by rfl) T.n_repr (by decide +kernel) (pa_cons (pv 0) pa_nil)) pa_nil))) (nomark _)) (pss_one (ps_ret pe_bl)) pss_nil)))
    (pss_cons (ps_set (i := 1) sc_law_refused.nd rfl (Or.inl rfl) (pe_lst (pa_cons pe_non (pa_cons pe_int (pa_cons (pe_lst pa_nil) (pa_cons (pe_tup (pa_cons (pe_lst pa_nil) (pa_cons pe_int pa_nil))) (pa_cons (pe_tup (pa_cons (pe_lst pa_nil) (pa_cons pe_int (pa_cons pe_int (pa_cons pe_int pa_nil))))) (pa_cons (pe_lst (pa_cons (pe_lst pa_nil) (pa_cons pe_int (pa_cons pe_int pa_nil)))) (pa_cons (pe_tup (pa_cons (pe_tup pa_nil) (pa_cons pe_int (pa_cons pe_int pa_nil)))) (pa_cons (pe_tup (pa_cons (pe_lst pa_nil) (pa_cons pe_bl (pa_cons pe_int pa_nil)))) (pa_cons (pe_tup (pa_cons (pe_lst pa_nil) (pa_cons pe_int (pa_cons pe_bl pa_nil)))) (pa_cons (pe_tup (pa_cons (pe_lst pa_nil) (pa_cons pe_non (pa_cons pe_int pa_nil)))) pa_nil))))))))))))
    (pss_cons (ps_for PassesOwn.never rfl (pi_seq (pe_op opAdd (pv 1) (pe_lst (pa_cons (pe_tup (pa_cons (pe_lst pa_nil) (pa_cons pe_non (pa_cons pe_bl pa_nil)))) (pa_cons (pe_tup (pa_cons (pe_lst (pa_cons pe_bl pa_nil)) (pa_cons pe_int (pa_cons pe_int pa_nil)))) (pa_cons (pe_tup (pa_cons (pe_lst (pa_cons pe_non pa_nil)) (pa_cons pe_non (pa_cons pe_int pa_nil)))) (pa_cons (pe_tup (pa_cons (pe_lst (pa_cons pe_int (pa_cons pe_int pa_nil))) (pa_cons pe_int (pa_cons pe_int pa_nil)))) (pa_cons (pe_tup (pa_cons (pe_lst (pa_cons pe_int pa_nil)) (pa_cons pe_int (pa_cons pe_int pa_nil)))) (pa_cons (pe_tup (pa_cons pe_str (pa_cons pe_int (pa_cons pe_int pa_nil)))) pa_nil))))))))) (pg_name (i := 0) sc_law_refused.nd rfl (Or.inl rfl)) (pss_one (ps_if (PW.pt (pw_or (pt_cmpR opNot (DG.call_g (ok_is_run (P := P) (w := w) (base := base) T) (DG.guards_deeper.trans gg) (hr.mono (j := 4) (by decide)) rfl T.m_is_run T.F_is_run.kp T.b_is_run .nil pass0 (pa_cons (pv 0) pa_nil)) pe_bl (nomark _)) (pw_or1 (pt_cmpR (opNeU hr.units) (DG.call_g (ok_law_caught (P := P) (w := w) (base := base) T) (DG.guards_deeper.trans gg) (hr.mono (j := 7) (by decide)) rfl T.m_law_caught T.F_law_caught.kp T.b_law_caught .nil pass0 (pa_cons pe_int (pa_cons (pe_lst (pa_cons (pv 0) (pa_cons pe_non pa_nil))) pa_nil))) (pe_lst (pa_cons pe_str (pa_cons (pe_callB (callRepr (DG.guards_deeper.trans gg) (hu70 hr)) (by rfl) T.n_repr (by decide +kernel) (pa_cons (pv 0) pa_nil)) pa_nil))) (nomark _))))) (pss_one (ps_ret pe_bl)) pss_nil)))
    (pss_cons (ps_for PassesOwn.never rfl (pi_seq (pe_lst (pa_cons pe_non (pa_cons (pe_un un_neg pe_int) (pa_cons pe_bl (pa_cons pe_str (pa_cons (pe_lst (pa_cons pe_int pa_nil)) pa_nil))))))) (pg_name (i := 0) sc_law_refused.nd rfl (Or.inl rfl)) (pss_one (ps_if (pt_cmpR (opNeU hr.units) (DG.call_g (ok_law_caught (P := P) (w := w) (base := base) T) (DG.guards_deeper.trans gg) (hr.mono (j := 7) (by decide)) rfl T.m_law_caught T.F_law_caught.kp T.b_law_caught .nil pass0 (pa_cons pe_int (pa_cons (pe_lst (pa_cons (pe_tup (pa_cons (pe_lst (pa_cons pe_non (pa_cons pe_int pa_nil))) (pa_cons pe_int (pa_cons (pe_un un_neg pe_int) pa_nil)))) (pa_cons (pv 0) pa_nil))) pa_nil))) (pe_lst (pa_cons pe_str (pa_cons (pe_callB (callRepr (DG.guards_deeper.trans gg) (hu70 hr)) (by rfl) T.n_repr (by decide +kernel) (pa_cons (pv 0) pa_nil)) pa_nil))) (nomark _)) (pss_one (ps_ret pe_bl)) pss_nil)))
    (pss_one (ps_ret pe_bl))))))))),
    body_ok (N := ["_law_bad", "_law_odds"]) (ps := []) (by decide) (show RS _ (g_law_refused T.c_InvalidList T.c_InvalidNumber T.c_InvalidRun) from (rs_seq (rs_for (ri_seq (re_lst (ra_cons re_non (ra_cons (re_tup ra_nil) (ra_cons (re_tup (ra_cons re_int ra_nil)) (ra_cons re_str (ra_cons (re_lst (ra_cons re_bl ra_nil)) (ra_cons (re_lst (ra_cons re_str ra_nil)) (ra_cons (re_lst (ra_cons (re_lst (ra_cons re_int ra_nil)) ra_nil)) (ra_cons (re_lst (ra_cons re_int (ra_cons re_non (ra_cons (re_tup (ra_cons re_int ra_nil)) ra_nil)))) (ra_cons re_int ra_nil))))))))))) (rg_name (i := 0)) (rs_if (rt_test (re_op rb_ne (re_call (ra_cons re_int (ra_cons (re_lst (ra_cons re_var (ra_cons re_str (ra_cons re_str ra_nil)))) ra_nil))) (re_lst (ra_cons re_str (ra_cons (re_cb rc_repr (ra_cons re_var ra_nil)) ra_nil))))) (rs_ret re_bl) rs_next))
    (rs_seq (rs_for (ri_seq (re_lst (ra_cons re_str (ra_cons re_bl (ra_cons (re_lst (ra_cons re_int ra_nil)) (ra_cons (re_tup (ra_cons re_int ra_nil)) (ra_cons (re_lst (ra_cons re_non ra_nil)) ra_nil))))))) (rg_name (i := 0)) (rs_if (rt_test (re_op rb_ne (re_call (ra_cons re_int (ra_cons (re_lst (ra_cons (re_lst (ra_cons re_int (ra_cons re_non ra_nil))) (ra_cons re_var (ra_cons re_str ra_nil)))) ra_nil))) (re_lst (ra_cons re_str (ra_cons (re_cb rc_repr (ra_cons re_var ra_nil)) ra_nil))))) (rs_ret re_bl) rs_next))
    (rs_seq (rs_for (ri_seq (re_lst (ra_cons re_non (ra_cons re_str (ra_cons re_bl (ra_cons (re_lst (ra_cons re_int ra_nil)) ra_nil)))))) (rg_name (i := 0)) (rs_if (rt_test (re_op rb_ne (re_call (ra_cons re_int (ra_cons (re_lst (ra_cons (re_lst (ra_cons re_int ra_nil)) (ra_cons re_int (ra_cons re_var ra_nil)))) ra_nil))) (re_lst (ra_cons re_str (ra_cons (re_cb rc_repr (ra_cons re_var ra_nil)) ra_nil))))) (rs_ret re_bl) rs_next))
    (rs_seq (rs_for (ri_seq (re_lst (ra_cons re_int (ra_cons (re_un ru_neg re_int) (ra_cons re_non (ra_cons re_bl (ra_cons re_bl ra_nil))))))) (rg_name (i := 0)) (rs_if (rt_test (re_op rb_ne (re_call (ra_cons re_int (ra_cons (re_lst (ra_cons (re_lst (ra_cons re_int ra_nil)) (ra_cons re_non (ra_cons re_var ra_nil)))) ra_nil))) (re_lst (ra_cons re_str (ra_cons (re_cb rc_repr (ra_cons re_var ra_nil)) ra_nil))))) (rs_ret re_bl) rs_next))
    (rs_seq (rs_asg (re_lst (ra_cons re_non (ra_cons re_int (ra_cons (re_lst ra_nil) (ra_cons (re_tup (ra_cons (re_lst ra_nil) (ra_cons re_int ra_nil))) (ra_cons (re_tup (ra_cons (re_lst ra_nil) (ra_cons re_int (ra_cons re_int (ra_cons re_int ra_nil))))) (ra_cons (re_lst (ra_cons (re_lst ra_nil) (ra_cons re_int (ra_cons re_int ra_nil)))) (ra_cons (re_tup (ra_cons (re_tup ra_nil) (ra_cons re_int (ra_cons re_int ra_nil)))) (ra_cons (re_tup (ra_cons (re_lst ra_nil) (ra_cons re_bl (ra_cons re_int ra_nil)))) (ra_cons (re_tup (ra_cons (re_lst ra_nil) (ra_cons re_int (ra_cons re_bl ra_nil)))) (ra_cons (re_tup (ra_cons (re_lst ra_nil) (ra_cons re_non (ra_cons re_int ra_nil)))) ra_nil))))))))))) (rg_name (i := 1)))
    (rs_seq (rs_for (ri_seq (re_op rb_add re_var (re_lst (ra_cons (re_tup (ra_cons (re_lst ra_nil) (ra_cons re_non (ra_cons re_bl ra_nil)))) (ra_cons (re_tup (ra_cons (re_lst (ra_cons re_bl ra_nil)) (ra_cons re_int (ra_cons re_int ra_nil)))) (ra_cons (re_tup (ra_cons (re_lst (ra_cons re_non ra_nil)) (ra_cons re_non (ra_cons re_int ra_nil)))) (ra_cons (re_tup (ra_cons (re_lst (ra_cons re_int (ra_cons re_int ra_nil))) (ra_cons re_int (ra_cons re_int ra_nil)))) (ra_cons (re_tup (ra_cons (re_lst (ra_cons re_int ra_nil)) (ra_cons re_int (ra_cons re_int ra_nil)))) (ra_cons (re_tup (ra_cons re_str (ra_cons re_int (ra_cons re_int ra_nil)))) ra_nil))))))))) (rg_name (i := 0)) (rs_if (rt_or (rt_test (re_op rb_isnot (re_call (ra_cons re_var ra_nil)) re_bl)) (rt_test (re_op rb_ne (re_call (ra_cons re_int (ra_cons (re_lst (ra_cons re_var (ra_cons re_non ra_nil))) ra_nil))) (re_lst (ra_cons re_str (ra_cons (re_cb rc_repr (ra_cons re_var ra_nil)) ra_nil)))))) (rs_ret re_bl) rs_next))
    (rs_seq (rs_for (ri_seq (re_lst (ra_cons re_non (ra_cons (re_un ru_neg re_int) (ra_cons re_bl (ra_cons re_str (ra_cons (re_lst (ra_cons re_int ra_nil)) ra_nil))))))) (rg_name (i := 0)) (rs_if (rt_test (re_op rb_ne (re_call (ra_cons re_int (ra_cons (re_lst (ra_cons (re_tup (ra_cons (re_lst (ra_cons re_non (ra_cons re_int ra_nil))) (ra_cons re_int (ra_cons (re_un ru_neg re_int) ra_nil)))) (ra_cons re_var ra_nil))) ra_nil))) (re_lst (ra_cons re_str (ra_cons (re_cb rc_repr (ra_cons re_var ra_nil)) ra_nil))))) (rs_ret re_bl) rs_next))
    (rs_ret re_bl))))))))) h⟩
theorem sc_law_value : FnScope ["_law_run", "_law_number"] ["_law_run", "_law_number"] (defScope s_law_value) := ⟨rfl, rfl, rfl, by decide +kernel, rfl, by decide +kernel, by decide +kernel⟩
noncomputable def g_law_value : SF := (sSeq (sIf (fTest (fOp gLt (fVar 1) (fCB (g1 gLen) (fCons (fOp gIx (fVar 0) (fC (.int (0 : Int)))) fNil)))) (sRet (fOp gIx (fOp gIx (fVar 0) (fC (.int (0 : Int)))) (fVar 1))) sNext)
    (sRet (fIf (fTest (fOp (gIs false) (fOp gIx (fVar 0) (fC (.int (1 : Int)))) (fC .non))) (fC .non) (fOp gAdd (fOp gIx (fVar 0) (fC (.int (1 : Int)))) (fOp gMul (fOp gIx (fVar 0) (fC (.int (2 : Int)))) (fOp gMinus (fVar 1) (fCB (g1 gLen) (fCons (fOp gIx (fVar 0) (fC (.int (0 : Int)))) fNil))))))))
noncomputable def F_law_value : FnF := runDef 2 (g_law_value)
theorem ok_law_value (T : Txt P K mg) : DG.FnG P w K mg base CX0 1 T.a_law_value T.d_law_value ["_law_run", "_law_number"] (spD 2 F_law_value) :=
  DG.body0_g (k := 0) T.F_law_value sc_law_value (fun _ _ _ _ h => spD_len h) fun cdv A outer s H vs Q E gg hr h => ⟨_, (pss_cons (ps_if (pt_cmpR opLt (pv 1) (pe_callB callLen (by rfl) T.n_len (by decide +kernel) (pa_cons (pe_ix ix_seq (pv 0) pe_int (fun _ _ => rfl)) pa_nil)) (nomark _)) (pss_one (ps_ret (pe_ix ix_seq (pe_ix ix_seq (pv 0) pe_int (fun _ _ => rfl)) (pv 1) (fun _ _ => rfl)))) pss_nil)
    (pss_one (ps_ret (pe_ifExp (pt_cmpR opIs (pe_ix ix_seq (pv 0) pe_int (fun _ _ => rfl)) pe_non (nomark _)) pe_non (pe_op opAdd (pe_ix ix_seq (pv 0) pe_int (fun _ _ => rfl)) (pe_op opMul (pe_ix ix_seq (pv 0) pe_int (fun _ _ => rfl)) (pe_op op_sub (pv 1) (pe_callB callLen (by rfl) T.n_len (by decide +kernel) (pa_cons (pe_ix ix_seq (pv 0) pe_int (fun _ _ => rfl)) pa_nil))))))))),
    body_ok (N := ["_law_run", "_law_number"]) (ps := ["_law_run", "_law_number"]) (by decide) (show RS _ (g_law_value) from (rs_seq (rs_if (rt_test (re_op rb_lt re_var (re_cb rc_len (ra_cons (re_op rb_ix re_var re_int) ra_nil)))) (rs_ret (re_op rb_ix (re_op rb_ix re_var re_int) re_var)) rs_next)
    (rs_ret (re_if (rt_test (re_op rb_is (re_op rb_ix re_var re_int) re_non)) re_non (re_op rb_add (re_op rb_ix re_var re_int) (re_op rb_mul (re_op rb_ix re_var re_int) (re_op rb_sub re_var (re_cb rc_len (ra_cons (re_op rb_ix re_var re_int) ra_nil))))))))) h⟩
theorem sc_law_whole : FnScope ["_law_value_here"] ["_law_value_here"] (defScope s_law_whole) := ⟨rfl, rfl, rfl, by decide +kernel, rfl, by decide +kernel, by decide +kernel⟩
noncomputable def g_law_whole : SF := (sRet (fAndV (fIsi .int (fVar 0)) (fNotV (fIsi .bool (fVar 0)))))
noncomputable def F_law_whole : FnF := runDef 1 (g_law_whole)
theorem ok_law_whole (T : Txt P K mg) : DG.FnG P w K mg base CX0 1 T.a_law_whole T.d_law_whole ["_law_value_here"] (spD 1 F_law_whole) :=
  DG.body0_g (k := 0) T.F_law_whole sc_law_whole (fun _ _ _ _ h => spD_len h) fun cdv A outer s H vs Q E gg hr h => ⟨_, (pss_one (ps_ret (pe_and (pe_callB call_isi (by rfl) T.n_isinstance (by decide +kernel) (pa_cons (pv 0) (pa_cons (pe_bltn (v := .ty "int") (by rfl) T.n_int (by decide +kernel) rfl) pa_nil))) (pe_one (pe_not (pe_callB call_isi (by rfl) T.n_isinstance (by decide +kernel) (pa_cons (pv 0) (pa_cons (pe_bltn (v := .ty "bool") (by rfl) T.n_bool (by decide +kernel) rfl) pa_nil)))))))),
    body_ok (N := ["_law_value_here"]) (ps := ["_law_value_here"]) (by decide) (show RS _ (g_law_whole) from (rs_ret (re_andV (re_isi .int re_var) (re_notV (re_isi .bool re_var))))) h⟩
theorem sc_law_is_least : FnScope ["_law_run", "_law_item"] ["_law_run"] (defScope s_law_is_least) := ⟨rfl, rfl, rfl, by decide +kernel, rfl, by decide +kernel, by decide +kernel⟩
noncomputable def g_law_is_least : SF := (sSeq (sIf (fOr (fNot (fTest (fIsi .tuple (fVar 0)))) (fOr (fTest (fOp gNe (fCB (g1 gLen) (fCons (fVar 0) fNil)) (fC (.int (3 : Int))))) (fNot (fTest (fIsi .list (fOp gIx (fVar 0) (fC (.int (0 : Int))))))))) (sRet (fC (.bl false))) sNext)
    (sSeq (sIf (fOr (fTest (fOp gNe (fOfL (fLc (fSeqIt (fOp gIx (fVar 0) (fC (.int (0 : Int))))) (fName 1) (fAnd (fTest (fOp (gIs true) (fVar 1) (fC .non))) (fNot (fTest (fCall 1 none F_law_whole (fCons (fVar 1) fNil))))) (fVar 1) [1])) (fLst' fNil))) (fNot (fTest (fCall 1 none F_law_whole (fCons (fOp gIx (fVar 0) (fC (.int (2 : Int)))) fNil))))) (sRet (fC (.bl false))) sNext)
    (sSeq (sIf (fTest (fOp (gIs false) (fOp gIx (fVar 0) (fC (.int (1 : Int)))) (fC .non))) (sRet (fAndV (fOp gEq (fOp gIx (fVar 0) (fC (.int (2 : Int)))) (fC (.int (0 : Int)))) (fOp gNe (fSl (fOp gIx (fVar 0) (fC (.int (0 : Int)))) (fPart (fUn gNeg (fC (.int (1 : Int))))) fNoPart) (fLst' (fCons (fC .non) fNil))))) sNext)
    (sRet (fAndV (fCall 1 none F_law_whole (fCons (fOp gIx (fVar 0) (fC (.int (1 : Int)))) fNil)) (fOp gNe (fSl (fOp gIx (fVar 0) (fC (.int (0 : Int)))) (fPart (fUn gNeg (fC (.int (1 : Int))))) fNoPart) (fLst' (fCons (fOp gMinus (fOp gIx (fVar 0) (fC (.int (1 : Int)))) (fOp gIx (fVar 0) (fC (.int (2 : Int))))) fNil))))))))
noncomputable def F_law_is_least : FnF := runDef 2 (g_law_is_least)
theorem ok_law_is_least (T : Txt P K mg) : DG.FnG P w K mg base CX0 2 T.a_law_is_least T.d_law_is_least ["_law_run"] (spD 1 F_law_is_least) :=
  DG.body0_g (k := 1) T.F_law_is_least sc_law_is_least (fun _ _ _ _ h => spD_len h) fun cdv A outer s H vs Q E gg hr h => ⟨_, (pss_cons (ps_if (PW.pt (pw_or (pt_not (pt_val (pe_callB call_isi (by rfl) T.n_isinstance (by decide +kernel) (pa_cons (pv 0) (pa_cons (pe_bltn (v := .ty "tuple") (by rfl) T.n_tuple (by decide +kernel) rfl) pa_nil))))) (pw_or (pt_cmpR (opNeU hr.units) (pe_callB callLen (by rfl) T.n_len (by decide +kernel) (pa_cons (pv 0) pa_nil)) pe_int (nomark _)) (pw_or1 (pt_not (pt_val (pe_callB call_isi (by rfl) T.n_isinstance (by decide +kernel) (pa_cons (pe_ix ix_seq (pv 0) pe_int (fun _ _ => rfl)) (pa_cons (pe_bltn (v := .ty "list") (by rfl) T.n_list (by decide +kernel) rfl) pa_nil))))))))) (pss_one (ps_ret pe_bl)) pss_nil)
    (pss_cons (ps_if (PW.pt (pw_or (pt_cmpR (opNeU hr.units) (pe_lc (own := [("_law_item", 1)]) (g := (gName 1)) rfl sc_law_is_least.nd (pi_seq (pe_ix ix_seq (pv 0) pe_int (fun _ _ => rfl))) (blkOk_by (N := ["_law_run", "_law_item"]) (sc := (defScope s_law_is_least)) (by decide +kernel)) (fun _ _ _ _ _ => (pg_name (i := 1) sc_law_is_least.nd rfl (by first | exact Or.inl rfl | exact Or.inr rfl))) (fun _ _ _ _ _ => (pts_one (PW.pt (pw_and (pt_cmpR opNot (pv 1) pe_non (nomark _)) (pw_and1 (pt_not (pt_val (DG.call_g (ok_law_whole (P := P) (w := w) (base := base) T) (DG.guards_deeper.trans gg) (hr.mono (j := 1) (by decide)) rfl T.m_law_whole T.F_law_whole.kp T.b_law_whole .nil pass0 (pa_cons (pv 1) pa_nil))))))))) (fun _ _ _ _ _ => (pv 1))) (pe_lst pa_nil) (nomark _)) (pw_or1 (pt_not (pt_val (DG.call_g (ok_law_whole (P := P) (w := w) (base := base) T) (DG.guards_deeper.trans gg) (hr.mono (j := 1) (by decide)) rfl T.m_law_whole T.F_law_whole.kp T.b_law_whole .nil pass0 (pa_cons (pe_ix ix_seq (pv 0) pe_int (fun _ _ => rfl)) pa_nil))))))) (pss_one (ps_ret pe_bl)) pss_nil)
    (pss_cons (ps_if (pt_cmpR opIs (pe_ix ix_seq (pv 0) pe_int (fun _ _ => rfl)) pe_non (nomark _)) (pss_one (ps_ret (pe_and (pe_cmpR (opEqU hr.units) (pe_ix ix_seq (pv 0) pe_int (fun _ _ => rfl)) pe_int (nomark _)) (pe_one (pe_cmpR (opNeU hr.units) (pe_slice slU (pe_ix ix_seq (pv 0) pe_int (fun _ _ => rfl)) (po_some (pe_un un_neg pe_int)) po_none) (pe_lst (pa_cons pe_non pa_nil)) (nomark _)))))) pss_nil)
    (pss_one (ps_ret (pe_and (DG.call_g (ok_law_whole (P := P) (w := w) (base := base) T) (DG.guards_deeper.trans gg) (hr.mono (j := 1) (by decide)) rfl T.m_law_whole T.F_law_whole.kp T.b_law_whole .nil pass0 (pa_cons (pe_ix ix_seq (pv 0) pe_int (fun _ _ => rfl)) pa_nil)) (pe_one (pe_cmpR (opNeU hr.units) (pe_slice slU (pe_ix ix_seq (pv 0) pe_int (fun _ _ => rfl)) (po_some (pe_un un_neg pe_int)) po_none) (pe_lst (pa_cons (pe_op op_sub (pe_ix ix_seq (pv 0) pe_int (fun _ _ => rfl)) (pe_ix ix_seq (pv 0) pe_int (fun _ _ => rfl))) pa_nil)) (nomark _))))))))),
    body_ok (N := ["_law_run", "_law_item"]) (ps := ["_law_run"]) (by decide) (show RS _ (g_law_is_least) from (rs_seq (rs_if (rt_or (rt_not (rt_B (re_isi .tuple re_var))) (rt_or (rt_test (re_op rb_ne (re_cb rc_len (ra_cons re_var ra_nil)) re_int)) (rt_not (rt_B (re_isi .list (re_op rb_ix re_var re_int)))))) (rs_ret re_bl) rs_next)
    (rs_seq (rs_if (rt_or (rt_test (re_op rb_ne (re_ofL (rl_lc (ts := [1]) (ri_seq (re_op rb_ix re_var re_int)) (rg_name (i := 1)) (by decide) (rt_and (rt_test (re_op rb_isnot re_var re_non)) (rt_not (rt_B (re_call (ra_cons re_var ra_nil))))) re_var)) (re_lst ra_nil))) (rt_not (rt_B (re_call (ra_cons (re_op rb_ix re_var re_int) ra_nil))))) (rs_ret re_bl) rs_next)
    (rs_seq (rs_if (rt_test (re_op rb_is (re_op rb_ix re_var re_int) re_non)) (rs_ret (re_andV (re_op rb_eq (re_op rb_ix re_var re_int) re_int) (re_op rb_ne (re_sl (re_op rb_ix re_var re_int) (ro_some (re_un ru_neg re_int)) ro_none) (re_lst (ra_cons re_non ra_nil))))) rs_next)
    (rs_ret (re_andV (re_call (ra_cons (re_op rb_ix re_var re_int) ra_nil)) (re_op rb_ne (re_sl (re_op rb_ix re_var re_int) (ro_some (re_un ru_neg re_int)) ro_none) (re_lst (ra_cons (re_op rb_sub (re_op rb_ix re_var re_int) (re_op rb_ix re_var re_int)) ra_nil))))))))) h⟩
theorem sc_law_hash : FnScope ["_law_seed", "_law_index", "_law_mixed"] ["_law_seed", "_law_index"] (defScope s_law_hash) := ⟨rfl, rfl, rfl, by decide +kernel, rfl, by decide +kernel, by decide +kernel⟩
noncomputable def g_law_hash : SF := (sSeq (sAsg (fOp gMod (fCB (g1 gInt1) (fCons (fOp gAdd (fOp gAdd (fOp gAdd (fOp gMul (fVar 0) (fC (.int (1299709 : Int)))) (fOp gMul (fOp gMul (fC (.int (104729 : Int))) (fVar 1)) (fVar 1))) (fOp gMul (fC (.int (31 : Int))) (fVar 1))) (fC (.int (7 : Int)))) fNil)) (fC (.int (2147483629 : Int)))) (fName 2))
    (sSeq (sAsg (fOp gMod (fCB (g1 gInt1) (fCons (fOp gAdd (fOp gAdd (fOp gMul (fVar 2) (fVar 2)) (fOp gMul (fC (.int (48271 : Int))) (fVar 1))) (fC (.int (15485863 : Int)))) fNil)) (fC (.int (2147483587 : Int)))) (fName 2))
    (sRet (fOp gMod (fCB (g1 gInt1) (fCons (fOp gMul (fVar 2) (fC (.int (69621 : Int)))) fNil)) (fC (.int (2147483647 : Int)))))))
noncomputable def F_law_hash : FnF := runDef 3 (g_law_hash)
theorem ok_law_hash (T : Txt P K mg) : DG.FnG P w K mg base CX0 1 T.a_law_hash T.d_law_hash ["_law_seed", "_law_index"] (spD 2 F_law_hash) :=
  DG.body0_g (k := 0) T.F_law_hash sc_law_hash (fun _ _ _ _ h => spD_len h) fun cdv A outer s H vs Q E gg hr h => ⟨_, (pss_cons (ps_set (i := 2) sc_law_hash.nd rfl (Or.inl rfl) (pe_op op_modN (pe_callTy callInt1 (by rfl) T.n_int (by decide +kernel) (pa_cons (pe_op opAdd (pe_op opAdd (pe_op opAdd (pe_op opMul (pv 0) pe_int) (pe_op opMul (pe_op opMul pe_int (pv 1)) (pv 1))) (pe_op opMul pe_int (pv 1))) pe_int) pa_nil)) pe_int))
    (pss_cons (ps_set (i := 2) sc_law_hash.nd rfl (Or.inl rfl) (pe_op op_modN (pe_callTy callInt1 (by rfl) T.n_int (by decide +kernel) (pa_cons (pe_op opAdd (pe_op opAdd (pe_op opMul (pv 2) (pv 2)) (pe_op opMul pe_int (pv 1))) pe_int) pa_nil)) pe_int))
    (pss_one (ps_ret (pe_op op_modN (pe_callTy callInt1 (by rfl) T.n_int (by decide +kernel) (pa_cons (pe_op opMul (pv 2) pe_int) pa_nil)) pe_int))))),
    body_ok (N := ["_law_seed", "_law_index", "_law_mixed"]) (ps := ["_law_seed", "_law_index"]) (by decide) (show RS _ (g_law_hash) from (rs_seq (rs_asg (re_op rb_mod (re_cb rc_int (ra_cons (re_op rb_add (re_op rb_add (re_op rb_add (re_op rb_mul re_var re_int) (re_op rb_mul (re_op rb_mul re_int re_var) re_var)) (re_op rb_mul re_int re_var)) re_int) ra_nil)) re_int) (rg_name (i := 2)))
    (rs_seq (rs_asg (re_op rb_mod (re_cb rc_int (ra_cons (re_op rb_add (re_op rb_add (re_op rb_mul re_var re_var) (re_op rb_mul re_int re_var)) re_int) ra_nil)) re_int) (rg_name (i := 2)))
    (rs_ret (re_op rb_mod (re_cb rc_int (ra_cons (re_op rb_mul re_var re_int) ra_nil)) re_int))))) h⟩
theorem sc_law_random : FnScope ["_law_generator_here", "_law_bound", "_law_drawn", "_law_turn"] ["_law_generator_here", "_law_bound"] (defScope s_law_random) := ⟨rfl, rfl, rfl, by decide +kernel, rfl, by decide +kernel, by decide +kernel⟩
noncomputable def g_law_random : SF := (sSeq (sIf (fTest (fOp gGt (fOp gIx (fVar 0) (fC (.int (0 : Int)))) (fC (.int (0 : Int))))) (sSeq (sAsg (fOp gMod (fCB (g1 gInt1) (fCons (fOp gIx (fVar 0) (fC (.int (0 : Int)))) fNil)) (fVar 1)) (fName 2))
    (sSeq (sSetI 0 (fOp gFdiv (fOp gIx (fVar 0) (fC (.int (0 : Int)))) (fVar 1)) (fC (.int (0 : Int))))
    (sRet (fVar 2)))) sNext)
    (sSeq (sAsg (fC (.int (0 : Int))) (fName 2))
    (sSeq (sFor (fRng1 (fCons (fOp gAdd (fC (.int (1 : Int))) (fOp gFdiv (fBits (fVar 1)) (fC (.int (30 : Int))))) fNil)) (fName 3) (sSeq (sSetI 0 (fOp gAdd (fOp gIx (fVar 0) (fC (.int (2 : Int)))) (fC (.int (1 : Int)))) (fC (.int (2 : Int))))
    (sAsg (fOp gAdd (fOp gMul (fVar 2) (fC (.int (2147483587 : Int)))) (fCall 2 none F_law_hash (fCons (fOp gIx (fVar 0) (fC (.int (1 : Int)))) (fCons (fOp gIx (fVar 0) (fC (.int (2 : Int)))) fNil)))) (fName 2))))
    (sRet (fOp gMod (fCB (g1 gInt1) (fCons (fVar 2) fNil)) (fVar 1))))))
noncomputable def F_law_random : FnF := runDef 4 (g_law_random)
theorem ok_law_random (T : Txt P K mg) : DG.FnG P w K mg base CX0 2 T.a_law_random T.d_law_random ["_law_generator_here", "_law_bound"] (spD 2 F_law_random) :=
  DG.body0_g (k := 1) T.F_law_random sc_law_random (fun _ _ _ _ h => spD_len h) fun cdv A outer s H vs Q E gg hr h => ⟨_, (pss_cons (ps_if (pt_cmpR opGt (pe_ix ix_seq (pv 0) pe_int (fun _ _ => rfl)) pe_int (nomark _)) (pss_cons (ps_set (i := 2) sc_law_random.nd rfl (Or.inl rfl) (pe_op op_modN (pe_callTy callInt1 (by rfl) T.n_int (by decide +kernel) (pa_cons (pe_ix ix_seq (pv 0) pe_int (fun _ _ => rfl)) pa_nil)) (pv 1)))
    (pss_cons (ps_asg (pe_op op_fdivX (pe_ix ix_seq (pv 0) pe_int (fun _ _ => rfl)) (pv 1)) (pg_sub (pv 0) pe_int set_list))
    (pss_one (ps_ret (pv 2))))) pss_nil)
    (pss_cons (ps_set (i := 2) sc_law_random.nd rfl (Or.inl rfl) pe_int)
    (pss_cons (ps_for PassesOwn.never rfl (pi_range1 (by rfl) T.n_range (pa_cons (pe_op opAdd pe_int (pe_op op_fdivX (pe_bits (pv 1)) pe_int)) pa_nil)) (pg_name (i := 3) sc_law_random.nd rfl (Or.inl rfl)) (pss_cons (ps_asg (pe_op opAdd (pe_ix ix_seq (pv 0) pe_int (fun _ _ => rfl)) pe_int) (pg_sub (pv 0) pe_int set_list))
    (pss_one (ps_set (i := 2) sc_law_random.nd rfl (Or.inl rfl) (pe_op opAdd (pe_op opMul (pv 2) pe_int) (DG.call_g (ok_law_hash (P := P) (w := w) (base := base) T) (DG.guards_deeper.trans gg) (hr.mono (j := 1) (by decide)) rfl T.m_law_hash T.F_law_hash.kp T.b_law_hash .nil pass0 (pa_cons (pe_ix ix_seq (pv 0) pe_int (fun _ _ => rfl)) (pa_cons (pe_ix ix_seq (pv 0) pe_int (fun _ _ => rfl)) pa_nil))))))))
    (pss_one (ps_ret (pe_op op_modN (pe_callTy callInt1 (by rfl) T.n_int (by decide +kernel) (pa_cons (pv 2) pa_nil)) (pv 1))))))),
    body_ok (N := ["_law_generator_here", "_law_bound", "_law_drawn", "_law_turn"]) (ps := ["_law_generator_here", "_law_bound"]) (by decide) (show RS _ (g_law_random) from (rs_seq (rs_if (rt_test (re_op rb_gt (re_op rb_ix re_var re_int) re_int)) (rs_seq (rs_asg (re_op rb_mod (re_cb rc_int (ra_cons (re_op rb_ix re_var re_int) ra_nil)) re_var) (rg_name (i := 2)))
    (rs_seq (rs_setI (re_op rb_fdiv (re_op rb_ix re_var re_int) re_var) re_int)
    (rs_ret re_var))) rs_next)
    (rs_seq (rs_asg re_int (rg_name (i := 2)))
    (rs_seq (rs_for (ri_rng1 (ra_cons (re_op rb_add re_int (re_op rb_fdiv (re_bits re_var) re_int)) ra_nil)) (rg_name (i := 3)) (rs_seq (rs_setI (re_op rb_add (re_op rb_ix re_var re_int) re_int) re_int)
    (rs_asg (re_op rb_add (re_op rb_mul re_var re_int) (re_call (ra_cons (re_op rb_ix re_var re_int) (ra_cons (re_op rb_ix re_var re_int) ra_nil)))) (rg_name (i := 2)))))
    (rs_ret (re_op rb_mod (re_cb rc_int (ra_cons re_var ra_nil)) re_var)))))) h⟩
theorem sc_law_least_good : FnScope ["_law_generator_here", "_law_raw", "_law_given", "_law_found", "_law_counts", "_law_number", "_law_more", "_law_again", "_law_kept"] ["_law_generator_here", "_law_raw"] (defScope s_law_least_good) := ⟨rfl, rfl, rfl, by decide +kernel, rfl, by decide +kernel, by decide +kernel⟩
noncomputable def g_law_least_good (c_InvalidList : Addr) (c_InvalidNumber : Addr) (c_InvalidRun : Addr) : SF := (sSeq (sOwn 2 (lListOf (fOp gIx (fVar 1) (fC (.int (0 : Int))))))
    (sSeq (sAsg (fOfT (fCallT 3 (FT_least_run c_InvalidList c_InvalidNumber) (fCons (fVar 2) (fCons (fOp gIx (fVar 1) (fC (.int (1 : Int)))) (fCons (fOp gIx (fVar 1) (fC (.int (2 : Int)))) fNil))))) (fName 3))
    (sSeq (sIf (fOr (fTest (fOp gNe (fCB (g1 gRepr) (fCons (fVar 2) fNil)) (fCB (g1 gRepr) (fCons (fOp gIx (fVar 1) (fC (.int (0 : Int)))) fNil)))) (fOr (fNot (fTest (fCall 1 none F_law_is_least (fCons (fVar 3) fNil)))) (fTest (fOp (gIs true) (fCall 1 none F_is_run (fCons (fVar 3) fNil)) (fC (.bl true)))))) (sRet (fC (.bl false))) sNext)
    (sSeq (sAsg (fOp gAdd (fOfL (lRng1 (fOp gAdd (fCB (g1 gLen) (fCons (fOp gIx (fVar 1) (fC (.int (0 : Int)))) fNil)) (fC (.int (4 : Int)))))) (fLst' (fCons (fCall 2 (some 0) F_law_random (fCons (fVar 0) (fCons (fOp gPow (fC (.int (10 : Int))) (fC (.int (30 : Int)))) fNil))) fNil))) (fName 4))
    (sSeq (sFor (fSeqIt (fVar 4)) (fName 5) (sSeq (sIf (fTest (fOp gNe (fCB (g1 gRepr) (fCons (fCall 2 none F_law_value (fCons (fVar 3) (fCons (fVar 5) fNil))) fNil)) (fCB (g1 gRepr) (fCons (fCall 2 none F_law_value (fCons (fVar 1) (fCons (fVar 5) fNil))) fNil)))) (sRet (fC (.bl false))) sNext)
    (sIf (fTest (fOp gNe (fCB (g1 gRepr) (fCons (fCall 2 none (F_run_value c_InvalidNumber c_InvalidRun) (fCons (fVar 3) (fCons (fVar 5) fNil))) fNil)) (fCB (g1 gRepr) (fCons (fCall 2 none F_law_value (fCons (fVar 1) (fCons (fVar 5) fNil))) fNil)))) (sRet (fC (.bl false))) sNext)))
    (sSeq (sIf (fOr (fTest (fOp gNe (fCB (g1 gRepr) (fCons (fOp gIx (fVar 3) (fC (.int (2 : Int)))) fNil)) (fCB (g1 gRepr) (fCons (fOp gIx (fVar 1) (fC (.int (2 : Int)))) fNil)))) (fTest (fOp gNe (fCB (g1 gRepr) (fCons (fCall 1 none F_is_run (fCons (fVar 1) fNil)) fNil)) (fCB (g1 gRepr) (fCons (fCall 1 none F_law_is_least (fCons (fVar 1) fNil)) fNil))))) (sRet (fC (.bl false))) sNext)
    (sSeq (sOwn 6 (fLc (fRng1 (fCons (fOp gAdd (fCB (g1 gLen) (fCons (fOp gIx (fVar 1) (fC (.int (0 : Int)))) fNil)) (fCall 2 (some 0) F_law_random (fCons (fVar 0) (fCons (fC (.int (4 : Int))) fNil)))) fNil)) (fName 5) tYesF (fCall 2 none F_law_value (fCons (fVar 1) (fCons (fVar 5) fNil))) [5]))
    (sBrkT 7 (fCallKT 3 3 [0, 2, 1] (FT_least_run c_InvalidList c_InvalidNumber) (fCons (fVar 6) (fCons (fOp gIx (fVar 1) (fC (.int (2 : Int)))) (fCons (fCall 2 none F_law_value (fCons (fVar 1) (fCons (fCB (g1 gLen) (fCons (fVar 6) fNil)) fNil))) fNil))))
    (sSeq (sAsg (fCB (g1 gRepr) (fCons (fVar 3) fNil)) (fName 8))
    (sSeq (sPrvApp 7 (.int (7 : Int)))
    (sSeq (sApp 2 (fC (.int (7 : Int))))
    (sSeq (sApp 6 (fC (.int (7 : Int))))
    (sRet (fAndV (fOp gEq (fCB (g1 gRepr) (fCons (fVar 3) fNil)) (fVar 8)) (fLend 7 (fOp gEq (fCB (g1 gRepr) (fCons (fTup' (fCons (fSl (fOp gIx (fVar 7) (fC (.int (0 : Int)))) fNoPart (fPart (fUn gNeg (fC (.int (1 : Int)))))) (fCons (fOp gIx (fVar 7) (fC (.int (1 : Int)))) (fCons (fOp gIx (fVar 7) (fC (.int (2 : Int)))) fNil)))) fNil)) (fVar 8)))))))))))))))))
noncomputable def F_law_least_good (c_InvalidList : Addr) (c_InvalidNumber : Addr) (c_InvalidRun : Addr) : FnF := runDef 9 (g_law_least_good c_InvalidList c_InvalidNumber c_InvalidRun)
theorem ok_law_least_good (T : Txt P K mg) : DG.FnG P w K mg base CX0 7 T.a_law_least_good T.d_law_least_good ["_law_generator_here", "_law_raw"] (spD 2 (F_law_least_good T.c_InvalidList T.c_InvalidNumber T.c_InvalidRun)) :=
  DG.body0_g (k := 6) T.F_law_least_good sc_law_least_good (fun _ _ _ _ h => spD_len h) fun cdv A outer s H vs Q E gg hr h => ⟨_, (pss_cons (ps_set (i := 2) sc_law_least_good.nd rfl (Or.inl rfl) (pe_callTy callListOf (by rfl) T.n_list (by decide +kernel) (pa_cons (pe_ix ix_seq (pv 1) pe_int (fun _ _ => rfl)) pa_nil)))
    (pss_cons (ps_set (i := 3) sc_law_least_good.nd rfl (Or.inl rfl) (DG.call_g (okT_least_run (P := P) (w := w) (base := base) T) (DG.guards_deeper.trans gg) (hr.mono (j := 4) (by decide)) rfl T.m_least_run T.F_least_run.kp T.b_least_run .nil pass0 (pa_cons (pv 2) (pa_cons (pe_ix ix_seq (pv 1) pe_int (fun _ _ => rfl)) (pa_cons (pe_ix ix_seq (pv 1) pe_int (fun _ _ => rfl)) pa_nil)))))
    (pss_cons (ps_if (PW.pt (pw_or (pt_cmpR (opNeU hr.units) (pe_callB (callRepr (DG.guards_deeper.trans gg) (hu70 hr)) (by rfl) T.n_repr (by decide +kernel) (pa_cons (pv 2) pa_nil)) (pe_callB (callRepr (DG.guards_deeper.trans gg) (hu70 hr)) (by rfl) T.n_repr (by decide +kernel) (pa_cons (pe_ix ix_seq (pv 1) pe_int (fun _ _ => rfl)) pa_nil)) (nomark _)) (pw_or (pt_not (pt_val (DG.call_g (ok_law_is_least (P := P) (w := w) (base := base) T) (DG.guards_deeper.trans gg) (hr.mono (j := 2) (by decide)) rfl T.m_law_is_least T.F_law_is_least.kp T.b_law_is_least .nil pass0 (pa_cons (pv 3) pa_nil)))) (pw_or1 (pt_cmpR opNot (DG.call_g (ok_is_run (P := P) (w := w) (base := base) T) (DG.guards_deeper.trans gg) (hr.mono (j := 4) (by decide)) rfl T.m_is_run T.F_is_run.kp T.b_is_run .nil pass0 (pa_cons (pv 3) pa_nil)) pe_bl (nomark _)))))) (pss_one (ps_ret pe_bl)) pss_nil)
    (pss_cons (ps_set (i := 4) sc_law_least_good.nd rfl (Or.inl rfl) (pe_op opAdd (pe_listRg rfl (by rfl) T.n_list (prg_1 (by rfl) T.n_range (pe_op opAdd (pe_callB callLen (by rfl) T.n_len (by decide +kernel) (pa_cons (pe_ix ix_seq (pv 1) pe_int (fun _ _ => rfl)) pa_nil)) pe_int))) (pe_lst (pa_cons (DG.call_g (ok_law_random (P := P) (w := w) (base := base) T) (DG.guards_deeper.trans gg) (hr.mono (j := 2) (by decide)) rfl T.m_law_random T.F_law_random.kp T.b_law_random .nil pass0 (pa_cons (pv 0) (pa_cons (pe_op op_powX pe_int pe_int) pa_nil))) pa_nil))))
    (pss_cons (ps_for PassesOwn.never rfl (pi_seq (pv 4)) (pg_name (i := 5) sc_law_least_good.nd rfl (Or.inl rfl)) (pss_cons (ps_if (pt_cmpR (opNeU hr.units) (pe_callB (callRepr (DG.guards_deeper.trans gg) (hu70 hr)) (by rfl) T.n_repr (by decide +kernel) (pa_cons (DG.call_g (ok_law_value (P := P) (w := w) (base := base) T) (DG.guards_deeper.trans gg) (hr.mono (j := 1) (by decide)) rfl T.m_law_value T.F_law_value.kp T.b_law_value .nil pass0 (pa_cons (pv 3) (pa_cons (pv 5) pa_nil))) pa_nil)) (pe_callB (callRepr (DG.guards_deeper.trans gg) (hu70 hr)) (by rfl) T.n_repr (by decide +kernel) (pa_cons (DG.call_g (ok_law_value (P := P) (w := w) (base := base) T) (DG.guards_deeper.trans gg) (hr.mono (j := 1) (by decide)) rfl T.m_law_value T.F_law_value.kp T.b_law_value .nil pass0 (pa_cons (pv 1) (pa_cons (pv 5) pa_nil))) pa_nil)) (nomark _)) (pss_one (ps_ret pe_bl)) pss_nil)
    (pss_one (ps_if (pt_cmpR (opNeU hr.units) (pe_callB (callRepr (DG.guards_deeper.trans gg) (hu70 hr)) (by rfl) T.n_repr (by decide +kernel) (pa_cons (DG.call_g (ok_run_value (P := P) (w := w) (base := base) T) (DG.guards_deeper.trans gg) (hr.mono (j := 6) (by decide)) rfl T.m_run_value T.F_run_value.kp T.b_run_value .nil pass0 (pa_cons (pv 3) (pa_cons (pv 5) pa_nil))) pa_nil)) (pe_callB (callRepr (DG.guards_deeper.trans gg) (hu70 hr)) (by rfl) T.n_repr (by decide +kernel) (pa_cons (DG.call_g (ok_law_value (P := P) (w := w) (base := base) T) (DG.guards_deeper.trans gg) (hr.mono (j := 1) (by decide)) rfl T.m_law_value T.F_law_value.kp T.b_law_value .nil pass0 (pa_cons (pv 1) (pa_cons (pv 5) pa_nil))) pa_nil)) (nomark _)) (pss_one (ps_ret pe_bl)) pss_nil))))
    (pss_cons (ps_if (PW.pt (pw_or (pt_cmpR (opNeU hr.units) (pe_callB (callRepr (DG.guards_deeper.trans gg) (hu70 hr)) (by rfl) T.n_repr (by decide +kernel) (pa_cons (pe_ix ix_seq (pv 3) pe_int (fun _ _ => rfl)) pa_nil)) (pe_callB (callRepr (DG.guards_deeper.trans gg) (hu70 hr)) (by rfl) T.n_repr (by decide +kernel) (pa_cons (pe_ix ix_seq (pv 1) pe_int (fun _ _ => rfl)) pa_nil)) (nomark _)) (pw_or1 (pt_cmpR (opNeU hr.units) (pe_callB (callRepr (DG.guards_deeper.trans gg) (hu70 hr)) (by rfl) T.n_repr (by decide +kernel) (pa_cons (DG.call_g (ok_is_run (P := P) (w := w) (base := base) T) (DG.guards_deeper.trans gg) (hr.mono (j := 4) (by decide)) rfl T.m_is_run T.F_is_run.kp T.b_is_run .nil pass0 (pa_cons (pv 1) pa_nil)) pa_nil)) (pe_callB (callRepr (DG.guards_deeper.trans gg) (hu70 hr)) (by rfl) T.n_repr (by decide +kernel) (pa_cons (DG.call_g (ok_law_is_least (P := P) (w := w) (base := base) T) (DG.guards_deeper.trans gg) (hr.mono (j := 2) (by decide)) rfl T.m_law_is_least T.F_law_is_least.kp T.b_law_is_least .nil pass0 (pa_cons (pv 1) pa_nil)) pa_nil)) (nomark _))))) (pss_one (ps_ret pe_bl)) pss_nil)
    (pss_cons (ps_setLc (i := 6) (own := [("_law_number", 5)]) (g := (gName 5)) rfl sc_law_least_good.nd rfl rfl (sw_true rfl rfl rfl (by decide +kernel)) (pi_range1 (by rfl) T.n_range (pa_cons (pe_op opAdd (pe_callB callLen (by rfl) T.n_len (by decide +kernel) (pa_cons (pe_ix ix_seq (pv 1) pe_int (fun _ _ => rfl)) pa_nil)) (DG.call_g (ok_law_random (P := P) (w := w) (base := base) T) (DG.guards_deeper.trans gg) (hr.mono (j := 2) (by decide)) rfl T.m_law_random T.F_law_random.kp T.b_law_random .nil pass0 (pa_cons (pv 0) (pa_cons pe_int pa_nil)))) pa_nil)) (blkOk_by (N := ["_law_generator_here", "_law_raw", "_law_given", "_law_found", "_law_counts", "_law_number", "_law_more", "_law_again", "_law_kept"]) (sc := (defScope s_law_least_good)) (by decide +kernel)) (fun _ _ _ _ _ => (pg_name (i := 5) sc_law_least_good.nd rfl (by first | exact Or.inl rfl | exact Or.inr rfl))) (fun _ _ _ _ _ => pts_nil) (fun _ _ _ _ _ => (DG.call_g (ok_law_value (P := P) (w := w) (base := base) T) (DG.guards_deeper.trans gg) (hr.mono (j := 1) (by decide)) rfl T.m_law_value T.F_law_value.kp T.b_law_value .nil pass0 (pa_cons (pv 1) (pa_cons (pv 5) pa_nil)))))
    (pss_cons (ps_set (i := 7) sc_law_least_good.nd rfl (Or.inl rfl) (DG.callK0_g (okT_least_run (P := P) (w := w) (base := base) T) (DG.guards_deeper.trans gg) (hr.mono (j := 4) (by decide)) rfl T.m_least_run T.F_least_run.kp (kb0_least_run T) pass0 (pk_cons (pv 6) (pk_cons (pe_ix ix_seq (pv 1) pe_int (fun _ _ => rfl)) (pk_cons (DG.call_g (ok_law_value (P := P) (w := w) (base := base) T) (DG.guards_deeper.trans gg) (hr.mono (j := 1) (by decide)) rfl T.m_law_value T.F_law_value.kp T.b_law_value .nil pass0 (pa_cons (pv 1) (pa_cons (pe_callB callLen (by rfl) T.n_len (by decide +kernel) (pa_cons (pv 6) pa_nil)) pa_nil))) pk_nil)))))
    (pss_cons (ps_set (i := 8) sc_law_least_good.nd rfl (Or.inl rfl) (pe_callB (callRepr (DG.guards_deeper.trans gg) (hu70 hr)) (by rfl) T.n_repr (by decide +kernel) (pa_cons (pv 3) pa_nil)))
    (pss_cons (ps_expr (pe_bm PySem.F.plainAttrs_list PySem.F.slot_list_append PySem.F.type_list_append mt_append (pe_ix ix_seq (pv 7) pe_int (fun _ _ => rfl)) (pa_cons pe_int pa_nil)))
    (pss_cons (ps_expr (pe_bm PySem.F.plainAttrs_list PySem.F.slot_list_append PySem.F.type_list_append mt_append (pv 2) (pa_cons pe_int pa_nil)))
    (pss_cons (ps_expr (pe_bm PySem.F.plainAttrs_list PySem.F.slot_list_append PySem.F.type_list_append mt_append (pv 6) (pa_cons pe_int pa_nil)))
    (pss_one (ps_ret (pe_and (pe_cmpR (opEqU hr.units) (pe_callB (callRepr (DG.guards_deeper.trans gg) (hu70 hr)) (by rfl) T.n_repr (by decide +kernel) (pa_cons (pv 3) pa_nil)) (pv 8) (nomark _)) (pe_one (pe_cmpR (opEqU hr.units) (pe_callB (callRepr (DG.guards_deeper.trans gg) (hu70 hr)) (by rfl) T.n_repr (by decide +kernel) (pa_cons (pe_tup (pa_cons (pe_slice slU (pe_ix ix_seq (pv 7) pe_int (fun _ _ => rfl)) po_none (po_some (pe_un un_neg pe_int))) (pa_cons (pe_ix ix_seq (pv 7) pe_int (fun _ _ => rfl)) (pa_cons (pe_ix ix_seq (pv 7) pe_int (fun _ _ => rfl)) pa_nil)))) pa_nil)) (pv 8) (nomark _)))))))))))))))))),
    body_ok (N := ["_law_generator_here", "_law_raw", "_law_given", "_law_found", "_law_counts", "_law_number", "_law_more", "_law_again", "_law_kept"]) (ps := ["_law_generator_here", "_law_raw"]) (by decide) (show RS _ (g_law_least_good T.c_InvalidList T.c_InvalidNumber T.c_InvalidRun) from (rs_seq (rs_own (rl_listOf (re_op rb_ix re_var re_int)))
    (rs_seq (rs_asg (re_ofT (rft_call (ra_cons re_var (ra_cons (re_op rb_ix re_var re_int) (ra_cons (re_op rb_ix re_var re_int) ra_nil))))) (rg_name (i := 3)))
    (rs_seq (rs_if (rt_or (rt_test (re_op rb_ne (re_cb rc_repr (ra_cons re_var ra_nil)) (re_cb rc_repr (ra_cons (re_op rb_ix re_var re_int) ra_nil)))) (rt_or (rt_not (rt_B (re_call (ra_cons re_var ra_nil)))) (rt_test (re_op rb_isnot (re_call (ra_cons re_var ra_nil)) re_bl)))) (rs_ret re_bl) rs_next)
    (rs_seq (rs_asg (re_op rb_add (re_ofL (rl_rng1 (re_op rb_add (re_cb rc_len (ra_cons (re_op rb_ix re_var re_int) ra_nil)) re_int))) (re_lst (ra_cons (re_call (ra_cons re_var (ra_cons (re_op rb_pow re_int re_int) ra_nil))) ra_nil))) (rg_name (i := 4)))
    (rs_seq (rs_for (ri_seq re_var) (rg_name (i := 5)) (rs_seq (rs_if (rt_test (re_op rb_ne (re_cb rc_repr (ra_cons (re_call (ra_cons re_var (ra_cons re_var ra_nil))) ra_nil)) (re_cb rc_repr (ra_cons (re_call (ra_cons re_var (ra_cons re_var ra_nil))) ra_nil)))) (rs_ret re_bl) rs_next)
    (rs_if (rt_test (re_op rb_ne (re_cb rc_repr (ra_cons (re_call (ra_cons re_var (ra_cons re_var ra_nil))) ra_nil)) (re_cb rc_repr (ra_cons (re_call (ra_cons re_var (ra_cons re_var ra_nil))) ra_nil)))) (rs_ret re_bl) rs_next)))
    (rs_seq (rs_if (rt_or (rt_test (re_op rb_ne (re_cb rc_repr (ra_cons (re_op rb_ix re_var re_int) ra_nil)) (re_cb rc_repr (ra_cons (re_op rb_ix re_var re_int) ra_nil)))) (rt_test (re_op rb_ne (re_cb rc_repr (ra_cons (re_call (ra_cons re_var ra_nil)) ra_nil)) (re_cb rc_repr (ra_cons (re_call (ra_cons re_var ra_nil)) ra_nil))))) (rs_ret re_bl) rs_next)
    (rs_seq (rs_own (rl_lc (ts := [5]) (ri_rng1 (ra_cons (re_op rb_add (re_cb rc_len (ra_cons (re_op rb_ix re_var re_int) ra_nil)) (re_call (ra_cons re_var (ra_cons re_int ra_nil)))) ra_nil)) (rg_name (i := 5)) (by decide) rt_yes (re_call (ra_cons re_var (ra_cons re_var ra_nil)))))
    (rs_brkT (i := 7) (rft_callK (b := [0, 2, 1]) (fun _ => rfl) (ra_cons re_var (ra_cons (re_op rb_ix re_var re_int) (ra_cons (re_call (ra_cons re_var (ra_cons (re_cb rc_len (ra_cons re_var ra_nil)) ra_nil))) ra_nil))))
    (rs_seq (rs_asg (re_cb rc_repr (ra_cons re_var ra_nil)) (rg_name (i := 8)))
    (rs_seq (rs_prvApp (i := 7) hix0 re_int)
    (rs_seq (rs_app re_int)
    (rs_seq (rs_app re_int)
    (rs_ret (re_andV (re_op rb_eq (re_cb rc_repr (ra_cons re_var ra_nil)) re_var) (re_lend (i := 7) (re_op rb_eq (re_cb rc_repr (ra_cons (re_tup (ra_cons (re_sl (re_op rb_ix re_var re_int) ro_none (ro_some (re_un ru_neg re_int))) (ra_cons (re_op rb_ix re_var re_int) (ra_cons (re_op rb_ix re_var re_int) ra_nil)))) ra_nil)) re_var))))))))))))))))) h⟩
theorem sc_law_worth : FnScope ["_law_generator_here", "_law_kind"] ["_law_generator_here"] (defScope s_law_worth) := ⟨rfl, rfl, rfl, by decide +kernel, rfl, by decide +kernel, by decide +kernel⟩
noncomputable def g_law_worth : SF := (sSeq (sAsg (fCall 2 (some 0) F_law_random (fCons (fVar 0) (fCons (fC (.int (6 : Int))) fNil))) (fName 1))
    (sSeq (sIf (fTest (fOp gEq (fVar 1) (fC (.int (0 : Int))))) (sRet (fC .non)) sNext)
    (sRet (fIf (fTest (fOp gLt (fVar 1) (fC (.int (5 : Int))))) (fOp gMinus (fCall 2 (some 0) F_law_random (fCons (fVar 0) (fCons (fC (.int (7 : Int))) fNil))) (fC (.int (3 : Int)))) (fOp gMinus (fCall 2 (some 0) F_law_random (fCons (fVar 0) (fCons (fOp gMul (fC (.int (2 : Int))) (fOp gPow (fC (.int (10 : Int))) (fC (.int (29 : Int))))) fNil))) (fOp gPow (fC (.int (10 : Int))) (fC (.int (29 : Int)))))))))
noncomputable def F_law_worth : FnF := runDef 2 (g_law_worth)
theorem ok_law_worth (T : Txt P K mg) : DG.FnG P w K mg base CX0 3 T.a_law_worth T.d_law_worth ["_law_generator_here"] (spD 1 F_law_worth) :=
  DG.body0_g (k := 2) T.F_law_worth sc_law_worth (fun _ _ _ _ h => spD_len h) fun cdv A outer s H vs Q E gg hr h => ⟨_, (pss_cons (ps_set (i := 1) sc_law_worth.nd rfl (Or.inl rfl) (DG.call_g (ok_law_random (P := P) (w := w) (base := base) T) (DG.guards_deeper.trans gg) (hr.mono (j := 2) (by decide)) rfl T.m_law_random T.F_law_random.kp T.b_law_random .nil pass0 (pa_cons (pv 0) (pa_cons pe_int pa_nil))))
    (pss_cons (ps_if (pt_cmpR (opEqU hr.units) (pv 1) pe_int (nomark _)) (pss_one (ps_ret pe_non)) pss_nil)
    (pss_one (ps_ret (pe_ifExp (pt_cmpR opLt (pv 1) pe_int (nomark _)) (pe_op op_sub (DG.call_g (ok_law_random (P := P) (w := w) (base := base) T) (DG.guards_deeper.trans gg) (hr.mono (j := 2) (by decide)) rfl T.m_law_random T.F_law_random.kp T.b_law_random .nil pass0 (pa_cons (pv 0) (pa_cons pe_int pa_nil))) pe_int) (pe_op op_sub (DG.call_g (ok_law_random (P := P) (w := w) (base := base) T) (DG.guards_deeper.trans gg) (hr.mono (j := 2) (by decide)) rfl T.m_law_random T.F_law_random.kp T.b_law_random .nil pass0 (pa_cons (pv 0) (pa_cons (pe_op opMul pe_int (pe_op op_powX pe_int pe_int)) pa_nil))) (pe_op op_powX pe_int pe_int))))))),
    body_ok (N := ["_law_generator_here", "_law_kind"]) (ps := ["_law_generator_here"]) (by decide) (show RS _ (g_law_worth) from (rs_seq (rs_asg (re_call (ra_cons re_var (ra_cons re_int ra_nil))) (rg_name (i := 1)))
    (rs_seq (rs_if (rt_test (re_op rb_eq re_var re_int)) (rs_ret re_non) rs_next)
    (rs_ret (re_if (rt_test (re_op rb_lt re_var re_int)) (re_op rb_sub (re_call (ra_cons re_var (ra_cons re_int ra_nil))) re_int) (re_op rb_sub (re_call (ra_cons re_var (ra_cons (re_op rb_mul re_int (re_op rb_pow re_int re_int)) ra_nil))) (re_op rb_pow re_int re_int))))))) h⟩
theorem sc_law_back : FnScope ["_law_start", "_law_slope"] ["_law_start", "_law_slope"] (defScope s_law_back) := ⟨rfl, rfl, rfl, by decide +kernel, rfl, by decide +kernel, by decide +kernel⟩
noncomputable def g_law_back : SF := (sRet (fIf (fTest (fOp (gIs false) (fVar 0) (fC .non))) (fC .non) (fOp gMinus (fVar 0) (fVar 1))))
noncomputable def F_law_back : FnF := runDef 2 (g_law_back)
theorem ok_law_back (T : Txt P K mg) : DG.FnG P w K mg base CX0 1 T.a_law_back T.d_law_back ["_law_start", "_law_slope"] (spD 2 F_law_back) :=
  DG.body0_g (k := 0) T.F_law_back sc_law_back (fun _ _ _ _ h => spD_len h) fun cdv A outer s H vs Q E gg hr h => ⟨_, (pss_one (ps_ret (pe_ifExp (pt_cmpR opIs (pv 0) pe_non (nomark _)) pe_non (pe_op op_sub (pv 0) (pv 1))))),
    body_ok (N := ["_law_start", "_law_slope"]) (ps := ["_law_start", "_law_slope"]) (by decide) (show RS _ (g_law_back) from (rs_ret (re_if (rt_test (re_op rb_is re_var re_non)) re_non (re_op rb_sub re_var re_var)))) h⟩
theorem sc_law_raw_run : FnScope ["_law_generator_here", "_law_most", "_law_start", "_law_slope", "_law_first", "_law_line", "_law_turn"] ["_law_generator_here", "_law_most"] (defScope s_law_raw_run) := ⟨rfl, rfl, rfl, by decide +kernel, rfl, by decide +kernel, by decide +kernel⟩
noncomputable def g_law_raw_run : SF := (sSeq (sPar 2 3 (fCall 1 (some 0) F_law_worth (fCons (fVar 0) fNil)) (fOp gMinus (fCall 2 (some 0) F_law_random (fCons (fVar 0) (fCons (fC (.int (7 : Int))) fNil))) (fC (.int (3 : Int)))))
    (sSeq (sIf (fTest (fOp gEq (fCall 2 (some 0) F_law_random (fCons (fVar 0) (fCons (fC (.int (5 : Int))) fNil))) (fC (.int (0 : Int))))) (sAsg (fOp gMul (fVar 3) (fOp gAdd (fCall 2 (some 0) F_law_random (fCons (fVar 0) (fCons (fOp gPow (fC (.int (10 : Int))) (fC (.int (20 : Int)))) fNil))) (fC (.int (1 : Int))))) (fName 3)) sNext)
    (sSeq (sIf (fTest (fOp (gIs false) (fVar 2) (fC .non))) (sAsg (fC (.int (0 : Int))) (fName 3)) sNext)
    (sSeq (sParOD 4 5 (lLst fNil) (fLst' (fCons (fVar 2) fNil)))
    (sSeq (sFor (fRng1 (fCons (fCall 2 (some 0) F_law_random (fCons (fVar 0) (fCons (fC (.int (4 : Int))) fNil))) fNil)) (fName 6) (sAsg (fOp gAdd (fLst' (fCons (fCall 2 none F_law_back (fCons (fOp gIx (fVar 5) (fC (.int (0 : Int)))) (fCons (fVar 3) fNil))) fNil)) (fVar 5)) (fName 5)))
    (sSeq (sFor (fRng1 (fCons (fCall 2 (some 0) F_law_random (fCons (fVar 0) (fCons (fVar 1) fNil))) fNil)) (fName 6) (sApp 4 (fCall 1 (some 0) F_law_worth (fCons (fVar 0) fNil))))
    (sRet (fTup' (fCons (fOp gAdd (fVar 4) (fSl (fVar 5) fNoPart (fPart (fUn gNeg (fC (.int (1 : Int))))))) (fCons (fVar 2) (fCons (fVar 3) fNil)))))))))))
noncomputable def F_law_raw_run : FnF := runDef 7 (g_law_raw_run)
theorem ok_law_raw_run (T : Txt P K mg) : DG.FnG P w K mg base CX0 4 T.a_law_raw_run T.d_law_raw_run ["_law_generator_here", "_law_most"] (spD 2 F_law_raw_run) :=
  DG.body0_g (k := 3) T.F_law_raw_run sc_law_raw_run (fun _ _ _ _ h => spD_len h) fun cdv A outer s H vs Q E gg hr h => ⟨_, (pss_cons (ps_par (i := 2) (j := 3) (by rfl) sc_law_raw_run.nd rfl rfl (by decide) rfl rfl (pa_cons (DG.call_g (ok_law_worth (P := P) (w := w) (base := base) T) (DG.guards_deeper.trans gg) (hr.mono (j := 3) (by decide)) rfl T.m_law_worth T.F_law_worth.kp T.b_law_worth .nil pass0 (pa_cons (pv 0) pa_nil)) (pa_cons (pe_op op_sub (DG.call_g (ok_law_random (P := P) (w := w) (base := base) T) (DG.guards_deeper.trans gg) (hr.mono (j := 2) (by decide)) rfl T.m_law_random T.F_law_random.kp T.b_law_random .nil pass0 (pa_cons (pv 0) (pa_cons pe_int pa_nil))) pe_int) pa_nil)) (by rfl))
    (pss_cons (ps_if (pt_cmpR (opEqU hr.units) (DG.call_g (ok_law_random (P := P) (w := w) (base := base) T) (DG.guards_deeper.trans gg) (hr.mono (j := 2) (by decide)) rfl T.m_law_random T.F_law_random.kp T.b_law_random .nil pass0 (pa_cons (pv 0) (pa_cons pe_int pa_nil))) pe_int (nomark _)) (pss_one (ps_set (i := 3) sc_law_raw_run.nd rfl (Or.inl rfl) (pe_op opMul (pv 3) (pe_op opAdd (DG.call_g (ok_law_random (P := P) (w := w) (base := base) T) (DG.guards_deeper.trans gg) (hr.mono (j := 2) (by decide)) rfl T.m_law_random T.F_law_random.kp T.b_law_random .nil pass0 (pa_cons (pv 0) (pa_cons (pe_op op_powX pe_int pe_int) pa_nil))) pe_int)))) pss_nil)
    (pss_cons (ps_if (pt_cmpR opIs (pv 2) pe_non (nomark _)) (pss_one (ps_set (i := 3) sc_law_raw_run.nd rfl (Or.inl rfl) pe_int)) pss_nil)
    (pss_cons (ps_par (i := 4) (j := 5) (by rfl) sc_law_raw_run.nd rfl rfl (by decide) rfl rfl (pa_cons (pe_lst pa_nil) (pa_cons (pe_lst (pa_cons (pv 2) pa_nil)) pa_nil)) (by rfl))
    (pss_cons (ps_for PassesOwn.never rfl (pi_range1 (by rfl) T.n_range (pa_cons (DG.call_g (ok_law_random (P := P) (w := w) (base := base) T) (DG.guards_deeper.trans gg) (hr.mono (j := 2) (by decide)) rfl T.m_law_random T.F_law_random.kp T.b_law_random .nil pass0 (pa_cons (pv 0) (pa_cons pe_int pa_nil))) pa_nil)) (pg_name (i := 6) sc_law_raw_run.nd rfl (Or.inl rfl)) (pss_one (ps_set (i := 5) sc_law_raw_run.nd rfl (Or.inl rfl) (pe_op opAdd (pe_lst (pa_cons (DG.call_g (ok_law_back (P := P) (w := w) (base := base) T) (DG.guards_deeper.trans gg) (hr.mono (j := 1) (by decide)) rfl T.m_law_back T.F_law_back.kp T.b_law_back .nil pass0 (pa_cons (pe_ix ix_seq (pv 5) pe_int (fun _ _ => rfl)) (pa_cons (pv 3) pa_nil))) pa_nil)) (pv 5)))))
    (pss_cons (ps_for PassesOwn.never rfl (pi_range1 (by rfl) T.n_range (pa_cons (DG.call_g (ok_law_random (P := P) (w := w) (base := base) T) (DG.guards_deeper.trans gg) (hr.mono (j := 2) (by decide)) rfl T.m_law_random T.F_law_random.kp T.b_law_random .nil pass0 (pa_cons (pv 0) (pa_cons (pv 1) pa_nil))) pa_nil)) (pg_name (i := 6) sc_law_raw_run.nd rfl (Or.inl rfl)) (pss_one (ps_expr (pe_bm PySem.F.plainAttrs_list PySem.F.slot_list_append PySem.F.type_list_append mt_append (pv 4) (pa_cons (DG.call_g (ok_law_worth (P := P) (w := w) (base := base) T) (DG.guards_deeper.trans gg) (hr.mono (j := 3) (by decide)) rfl T.m_law_worth T.F_law_worth.kp T.b_law_worth .nil pass0 (pa_cons (pv 0) pa_nil)) pa_nil)))))
    (pss_one (ps_ret (pe_tup (pa_cons (pe_op opAdd (pv 4) (pe_slice slU (pv 5) po_none (po_some (pe_un un_neg pe_int)))) (pa_cons (pv 2) (pa_cons (pv 3) pa_nil)))))))))))),
    body_ok (N := ["_law_generator_here", "_law_most", "_law_start", "_law_slope", "_law_first", "_law_line", "_law_turn"]) (ps := ["_law_generator_here", "_law_most"]) (by decide) (show RS _ (g_law_raw_run) from (rs_seq (rs_par (re_call (ra_cons re_var ra_nil)) (re_op rb_sub (re_call (ra_cons re_var (ra_cons re_int ra_nil))) re_int))
    (rs_seq (rs_if (rt_test (re_op rb_eq (re_call (ra_cons re_var (ra_cons re_int ra_nil))) re_int)) (rs_asg (re_op rb_mul re_var (re_op rb_add (re_call (ra_cons re_var (ra_cons (re_op rb_pow re_int re_int) ra_nil))) re_int)) (rg_name (i := 3))) rs_next)
    (rs_seq (rs_if (rt_test (re_op rb_is re_var re_non)) (rs_asg re_int (rg_name (i := 3))) rs_next)
    (rs_seq (rs_parOD (rl_lst ra_nil) (re_lst (ra_cons re_var ra_nil)))
    (rs_seq (rs_for (ri_rng1 (ra_cons (re_call (ra_cons re_var (ra_cons re_int ra_nil))) ra_nil)) (rg_name (i := 6)) (rs_asg (re_op rb_add (re_lst (ra_cons (re_call (ra_cons (re_op rb_ix re_var re_int) (ra_cons re_var ra_nil))) ra_nil)) re_var) (rg_name (i := 5))))
    (rs_seq (rs_for (ri_rng1 (ra_cons (re_call (ra_cons re_var (ra_cons re_var ra_nil))) ra_nil)) (rg_name (i := 6)) (rs_app (re_call (ra_cons re_var ra_nil))))
    (rs_ret (re_tup (ra_cons (re_op rb_add re_var (re_sl re_var ro_none (ro_some (re_un ru_neg re_int)))) (ra_cons re_var (ra_cons re_var ra_nil)))))))))))) h⟩
theorem sc_law : FnScope ["_law_script", "_law_index", "_law_generator_here", "_law_told"] ["_law_script"] (defScope s_law) := ⟨rfl, rfl, rfl, by decide +kernel, rfl, by decide +kernel, by decide +kernel⟩
noncomputable def g_law (K : PySem.W.Frag) (c_InvalidList : Addr) (c_InvalidNumber : Addr) (c_InvalidRun : Addr) : SF := (sSeq (sFor (fRng1 (fCons (fC (.int (6 : Int))) fNil)) (fName 1) (sSeq (sOwn 2 (fNewR 2 (F_law_generator K) (fCons (fVar 0) (fCons (fVar 1) fNil))))
    (sIf (fNot (fTest (fCall 2 (some 0) (F_law_least_good c_InvalidList c_InvalidNumber c_InvalidRun) (fCons (fVar 2) (fCons (fCall 2 (some 0) F_law_raw_run (fCons (fVar 2) (fCons (fC (.int (6 : Int))) fNil))) fNil))))) (sRet (fC (.bl false))) sNext)))
    (sSeq (sAsg (fLst' (fCons (fCall 3 none (F_least_run c_InvalidList c_InvalidNumber) (fCons (fLst' (fCons (fC .non) (fCons (fC (.int (1 : Int))) (fCons (fC (.int (3 : Int))) fNil)))) (fCons (fC (.int (5 : Int))) (fCons (fC (.int (2 : Int))) fNil)))) (fCons (fCall 3 none (F_least_run c_InvalidList c_InvalidNumber) (fCons (fLst' (fCons (fC .non) (fCons (fC .non) fNil))) (fCons (fC .non) (fCons (fC (.int (0 : Int))) fNil)))) (fCons (fCall 3 none (F_least_run c_InvalidList c_InvalidNumber) (fCons (fLst' fNil) (fCons (fC (.int (4 : Int))) (fCons (fC (.int (0 : Int))) fNil)))) (fCons (fCall 3 none (F_least_run c_InvalidList c_InvalidNumber) (fCons (fLst' (fCons (fC (.int (4 : Int))) (fCons (fC (.int (4 : Int))) fNil))) (fCons (fC (.int (4 : Int))) (fCons (fC (.int (0 : Int))) fNil)))) fNil))))) (fName 3))
    (sSeq (sIf (fTest (fOp gNe (fCB (g1 gRepr) (fCons (fVar 3) fNil)) (fCB (g1 gRepr) (fCons (fLst' (fCons (fTup' (fCons (fLst' (fCons (fC .non) fNil)) (fCons (fC (.int (1 : Int))) (fCons (fC (.int (2 : Int))) fNil)))) (fCons (fTup' (fCons (fLst' fNil) (fCons (fC .non) (fCons (fC (.int (0 : Int))) fNil)))) (fCons (fTup' (fCons (fLst' fNil) (fCons (fC (.int (4 : Int))) (fCons (fC (.int (0 : Int))) fNil)))) (fCons (fTup' (fCons (fLst' fNil) (fCons (fC (.int (4 : Int))) (fCons (fC (.int (0 : Int))) fNil)))) fNil))))) fNil)))) (sRet (fC (.bl false))) sNext)
    (sRet (fAndV (fOp (gIs false) (fCallK 0 1 1 [] [0] F_is_run fNil (fCons (fTup' (fCons (fLst' fNil) (fCons (fUn gNeg (fC (.int (3 : Int)))) (fCons (fC (.int (7 : Int))) fNil)))) fNil)) (fC (.bl true))) (fAndV (fOp gEq (fCallK 0 2 2 [] [1, 0] (F_run_value c_InvalidNumber c_InvalidRun) fNil (fCons (fC (.int (2 : Int))) (fCons (fTup' (fCons (fLst' (fCons (fC (.int (9 : Int))) fNil)) (fCons (fC (.int (1 : Int))) (fCons (fUn gNeg (fC (.int (4 : Int)))) fNil)))) fNil))) (fUn gNeg (fC (.int (3 : Int))))) (fCall 0 none (F_law_refused c_InvalidList c_InvalidNumber c_InvalidRun) fNil)))))))
noncomputable def F_law (K : PySem.W.Frag) (c_InvalidList : Addr) (c_InvalidNumber : Addr) (c_InvalidRun : Addr) : FnF := runDef 4 (g_law K c_InvalidList c_InvalidNumber c_InvalidRun)
theorem ok_law (T : Txt P K mg) : DG.FnG P w K mg base CX0 9 T.a_law T.d_law ["_law_script"] (spD 1 (F_law K T.c_InvalidList T.c_InvalidNumber T.c_InvalidRun)) :=
  DG.body0_g (k := 8) T.F_law sc_law (fun _ _ _ _ h => spD_len h) fun cdv A outer s H vs Q E gg hr h => ⟨_, (pss_cons (ps_for PassesOwn.never rfl (pi_range1 (by rfl) T.n_range (pa_cons pe_int pa_nil)) (pg_name (i := 1) sc_law.nd rfl (Or.inl rfl)) (pss_cons (ps_set (i := 2) sc_law.nd rfl (Or.inl rfl) (DG.call_g (ok_law_generator (P := P) (w := w) (base := base) T) (DG.guards_deeper.trans gg) (hr.mono (j := 1) (by decide)) rfl T.m_law_generator T.F_law_generator.kp T.b_law_generator .nil pass0 (pa_cons (pv 0) (pa_cons (pv 1) pa_nil))))
    (pss_one (ps_if (pt_not (pt_val (DG.call_g (ok_law_least_good (P := P) (w := w) (base := base) T) (DG.guards_deeper.trans gg) (hr.mono (j := 7) (by decide)) rfl T.m_law_least_good T.F_law_least_good.kp T.b_law_least_good .nil pass0 (pa_cons (pv 2) (pa_cons (DG.call_g (ok_law_raw_run (P := P) (w := w) (base := base) T) (DG.guards_deeper.trans gg) (hr.mono (j := 4) (by decide)) rfl T.m_law_raw_run T.F_law_raw_run.kp T.b_law_raw_run .nil pass0 (pa_cons (pv 2) (pa_cons pe_int pa_nil))) pa_nil))))) (pss_one (ps_ret pe_bl)) pss_nil))))
    (pss_cons (ps_set (i := 3) sc_law.nd rfl (Or.inl rfl) (pe_lst (pa_cons (DG.call_g (ok_least_run (P := P) (w := w) (base := base) T) (DG.guards_deeper.trans gg) (hr.mono (j := 4) (by decide)) rfl T.m_least_run T.F_least_run.kp T.b_least_run .nil pass0 (pa_cons (pe_lst (pa_cons pe_non (pa_cons pe_int (pa_cons pe_int pa_nil)))) (pa_cons pe_int (pa_cons pe_int pa_nil)))) (pa_cons (DG.call_g (ok_least_run (P := P) (w := w) (base := base) T) (DG.guards_deeper.trans gg) (hr.mono (j := 4) (by decide)) rfl T.m_least_run T.F_least_run.kp T.b_least_run .nil pass0 (pa_cons (pe_lst (pa_cons pe_non (pa_cons pe_non pa_nil))) (pa_cons pe_non (pa_cons pe_int pa_nil)))) (pa_cons (DG.call_g (ok_least_run (P := P) (w := w) (base := base) T) (DG.guards_deeper.trans gg) (hr.mono (j := 4) (by decide)) rfl T.m_least_run T.F_least_run.kp T.b_least_run .nil pass0 (pa_cons (pe_lst pa_nil) (pa_cons pe_int (pa_cons pe_int pa_nil)))) (pa_cons (DG.call_g (ok_least_run (P := P) (w := w) (base := base) T) (DG.guards_deeper.trans gg) (hr.mono (j := 4) (by decide)) rfl T.m_least_run T.F_least_run.kp T.b_least_run .nil pass0 (pa_cons (pe_lst (pa_cons pe_int (pa_cons pe_int pa_nil))) (pa_cons pe_int (pa_cons pe_int pa_nil)))) pa_nil))))))
    (pss_cons (ps_if (pt_cmpR (opNeU hr.units) (pe_callB (callRepr (DG.guards_deeper.trans gg) (hu70 hr)) (by rfl) T.n_repr (by decide +kernel) (pa_cons (pv 3) pa_nil)) (pe_callB (callRepr (DG.guards_deeper.trans gg) (hu70 hr)) (by rfl) T.n_repr (by decide +kernel) (pa_cons (pe_lst (pa_cons (pe_tup (pa_cons (pe_lst (pa_cons pe_non pa_nil)) (pa_cons pe_int (pa_cons pe_int pa_nil)))) (pa_cons (pe_tup (pa_cons (pe_lst pa_nil) (pa_cons pe_non (pa_cons pe_int pa_nil)))) (pa_cons (pe_tup (pa_cons (pe_lst pa_nil) (pa_cons pe_int (pa_cons pe_int pa_nil)))) (pa_cons (pe_tup (pa_cons (pe_lst pa_nil) (pa_cons pe_int (pa_cons pe_int pa_nil)))) pa_nil))))) pa_nil)) (nomark _)) (pss_one (ps_ret pe_bl)) pss_nil)
    (pss_one (ps_ret (pe_and (pe_cmpR opIs (DG.callK0_g (ok_is_run (P := P) (w := w) (base := base) T) (DG.guards_deeper.trans gg) (hr.mono (j := 4) (by decide)) rfl T.m_is_run T.F_is_run.kp (kb1_is_run T) pass0 (pk_cons (pe_tup (pa_cons (pe_lst pa_nil) (pa_cons (pe_un un_neg pe_int) (pa_cons pe_int pa_nil)))) pk_nil)) pe_bl (nomark _)) (pe_and (pe_cmpR (opEqU hr.units) (DG.callK0_g (ok_run_value (P := P) (w := w) (base := base) T) (DG.guards_deeper.trans gg) (hr.mono (j := 6) (by decide)) rfl T.m_run_value T.F_run_value.kp (kb2_run_value T) pass0 (pk_cons pe_int (pk_cons (pe_tup (pa_cons (pe_lst (pa_cons pe_int pa_nil)) (pa_cons pe_int (pa_cons (pe_un un_neg pe_int) pa_nil)))) pk_nil))) (pe_un un_neg pe_int) (nomark _)) (pe_one (DG.call0_g (ok_law_refused (P := P) (w := w) (base := base) T) (DG.guards_deeper.trans gg) (hr.mono (j := 8) (by decide)) rfl T.m_law_refused T.F_law_refused.kp T.b_law_refused .nil pass0))))))))),
    body_ok (N := ["_law_script", "_law_index", "_law_generator_here", "_law_told"]) (ps := ["_law_script"]) (by decide) (show RS _ (g_law K T.c_InvalidList T.c_InvalidNumber T.c_InvalidRun) from (rs_seq (rs_for (ri_rng1 (ra_cons re_int ra_nil)) (rg_name (i := 1)) (rs_seq (rs_own (rl_call (ra_cons re_var (ra_cons re_var ra_nil))))
    (rs_if (rt_not (rt_B (re_call (ra_cons re_var (ra_cons (re_call (ra_cons re_var (ra_cons re_int ra_nil))) ra_nil))))) (rs_ret re_bl) rs_next)))
    (rs_seq (rs_asg (re_lst (ra_cons (re_call (ra_cons (re_lst (ra_cons re_non (ra_cons re_int (ra_cons re_int ra_nil)))) (ra_cons re_int (ra_cons re_int ra_nil)))) (ra_cons (re_call (ra_cons (re_lst (ra_cons re_non (ra_cons re_non ra_nil))) (ra_cons re_non (ra_cons re_int ra_nil)))) (ra_cons (re_call (ra_cons (re_lst ra_nil) (ra_cons re_int (ra_cons re_int ra_nil)))) (ra_cons (re_call (ra_cons (re_lst (ra_cons re_int (ra_cons re_int ra_nil))) (ra_cons re_int (ra_cons re_int ra_nil)))) ra_nil))))) (rg_name (i := 3)))
    (rs_seq (rs_if (rt_test (re_op rb_ne (re_cb rc_repr (ra_cons re_var ra_nil)) (re_cb rc_repr (ra_cons (re_lst (ra_cons (re_tup (ra_cons (re_lst (ra_cons re_non ra_nil)) (ra_cons re_int (ra_cons re_int ra_nil)))) (ra_cons (re_tup (ra_cons (re_lst ra_nil) (ra_cons re_non (ra_cons re_int ra_nil)))) (ra_cons (re_tup (ra_cons (re_lst ra_nil) (ra_cons re_int (ra_cons re_int ra_nil)))) (ra_cons (re_tup (ra_cons (re_lst ra_nil) (ra_cons re_int (ra_cons re_int ra_nil)))) ra_nil))))) ra_nil)))) (rs_ret re_bl) rs_next)
    (rs_ret (re_andV (re_op rb_is (re_callK (b := [0]) cst_nil (fun vs zs => gix_n _ vs zs) ra_nil (ra_cons (re_tup (ra_cons (re_lst ra_nil) (ra_cons (re_un ru_neg re_int) (ra_cons re_int ra_nil)))) ra_nil)) re_bl) (re_andV (re_op rb_eq (re_callK (b := [1, 0]) cst_nil (fun vs zs => gix_n _ vs zs) ra_nil (ra_cons re_int (ra_cons (re_tup (ra_cons (re_lst (ra_cons re_int ra_nil)) (ra_cons re_int (ra_cons (re_un ru_neg re_int) ra_nil)))) ra_nil))) (re_un ru_neg re_int)) (re_call ra_nil)))))))) h⟩
end
theorem all_mk {l : PySem.W.OpenLaw} {w : World} {K : PySem.W.Frag} {h : Heap} {mg : Str → Option Value} {fa f0 f1 f2 f3 f4 f5 f6 f7 f8 f9 f10 f11 f12 f13 f14 f15 f16 f17 f18 f19 f20 f21 f22 f23 f24 f25 C_CountError C_InvalidList C_InvalidNumber C_InvalidRun xf_InvalidList xdt_InvalidList xcd_InvalidList xcc_InvalidList xf_InvalidNumber xdt_InvalidNumber xcd_InvalidNumber xcc_InvalidNumber xf_InvalidRun xdt_InvalidRun xcd_InvalidRun xcc_InvalidRun : Addr} (X : K.In h) (G : h.Ns mainGlobals mg) (hfa : mg "law" = some (.ref fa))
    {od0 an0 od1 an1 od2 an2 od3 an3 od4 an4 od5 an5 od6 an6 od7 an7 od8 an8 od9 an9 od10 an10 od11 an11 od12 an12 od13 an13 od14 an14 od15 an15 od16 an16 od17 an17 od18 an18 od19 an19 od20 an20 od21 an21 od22 an22 od23 an23 od24 an24 od25 an25 : Option Addr}
    {sl0 sl1 sl2 sl3 sl4 sl5 sl6 sl7 sl8 sl9 sl10 sl11 sl12 sl13 sl14 sl15 sl16 sl17 sl18 sl19 sl20 sl21 sl22 sl23 sl24 sl25 : Array (Option Value)}
    {oc0 kV0 dc0 pm0 cd0 ct0 oc1 kV1 dc1 pm1 cd1 ct1 oc2 kV2 dc2 pm2 cd2 ct2 oc3 kV3 dc3 pm3 cd3 ct3 oc4 kV4 dc4 pm4 cd4 ct4 oc5 kV5 dc5 pm5 cd5 ct5 oc6 kV6 dc6 pm6 cd6 ct6 oc7 kV7 dc7 pm7 cd7 ct7 oc8 kV8 dc8 pm8 cd8 ct8 oc9 kV9 dc9 pm9 cd9 ct9 oc10 kV10 dc10 pm10 cd10 ct10 oc11 kV11 dc11 pm11 cd11 ct11 oc12 kV12 dc12 pm12 cd12 ct12 oc13 kV13 dc13 pm13 cd13 ct13 oc14 kV14 dc14 pm14 cd14 ct14 oc15 kV15 dc15 pm15 cd15 ct15 oc16 kV16 dc16 pm16 cd16 ct16 oc17 kV17 dc17 pm17 cd17 ct17 oc18 kV18 dc18 pm18 cd18 ct18 oc19 kV19 dc19 pm19 cd19 ct19 oc20 kV20 dc20 pm20 cd20 ct20 oc21 kV21 dc21 pm21 cd21 ct21 oc22 kV22 dc22 pm22 cd22 ct22 oc23 kV23 dc23 pm23 cd23 ct23 oc24 kV24 dc24 pm24 cd24 ct24 oc25 kV25 dc25 pm25 cd25 ct25 : Value}
    (aC_CountError : PySem.W.nsIn K mainGlobals "CountError" = some (some (.ref C_CountError))) (xtop : (l.prog.main.scope.names.lookup ("super" : Str)).isSome = false)
    {xoc_InvalidList xkV_InvalidList xdoc_InvalidList xpm_InvalidList xct_InvalidList xto_InvalidList xcl_InvalidList xccl_InvalidList : Value} {xod_InvalidList xan_InvalidList xtd_InvalidList xcld_InvalidList xcdd_InvalidList : Option Addr} {xsl_InvalidList xts_InvalidList xcsl_InvalidList xccs_InvalidList : Array (Option Value)} {xdn_InvalidList : Nat} {xcvs_InvalidList : Array Value} {xfile_InvalidList : Str} {xtf_InvalidList : Tok}
    (aC_InvalidList : PySem.W.nsIn K mainGlobals "InvalidList" = some (some (.ref C_InvalidList))) (xB_InvalidList : xclsB K C_InvalidList = true) (xa_InvalidList : PySem.W.findIn K (.ref C_InvalidList) "__init__" = some (some (.ref xf_InvalidList))) (xt_InvalidList : PySem.W.typeIn K (.ref xf_InvalidList) = some (.type "function"))
    (xl_InvalidList : K.lookup xf_InvalidList = some ⟨xoc_InvalidList, xod_InvalidList, .func (PySem.W.ksFn "__init__" "InvalidList.__init__" (defArgs s_InvalidList_init) (defBody s_InvalidList_init) (defScope s_InvalidList_init) (.ref xdt_InvalidList) xkV_InvalidList xdoc_InvalidList xpm_InvalidList xan_InvalidList (.ref xcd_InvalidList) xct_InvalidList xcc_InvalidList), xsl_InvalidList⟩) (xc_InvalidList : PySem.W.codeIn K (.ref xcd_InvalidList) "InvalidList.__init__" = true)
    (xd_InvalidList : K.lookup xdt_InvalidList = some ⟨xto_InvalidList, xtd_InvalidList, .seq #[.none] xdn_InvalidList, xts_InvalidList⟩) (xe_InvalidList : K.lookup xcc_InvalidList = some ⟨xcl_InvalidList, xcld_InvalidList, .cell (some (.ref C_InvalidList)), xcsl_InvalidList⟩) (xg_InvalidList : K.lookup xcd_InvalidList = some ⟨xccl_InvalidList, xcdd_InvalidList, .fields xcvs_InvalidList, xccs_InvalidList⟩) (xh_InvalidList : xcvs_InvalidList[2]? = some (.str xfile_InvalidList xtf_InvalidList)) (xj_InvalidList : ((l.prog.main.file : Str) == xfile_InvalidList) = true)
    (xm_InvalidList : PySem.W.exmOne K (.ref C_InvalidList) (.ref C_CountError) = some true) (x0_InvalidList : PySem.W.kitOne K (.type "NoneType") (.ref C_InvalidList) = some false)
    {xoc_InvalidNumber xkV_InvalidNumber xdoc_InvalidNumber xpm_InvalidNumber xct_InvalidNumber xto_InvalidNumber xcl_InvalidNumber xccl_InvalidNumber : Value} {xod_InvalidNumber xan_InvalidNumber xtd_InvalidNumber xcld_InvalidNumber xcdd_InvalidNumber : Option Addr} {xsl_InvalidNumber xts_InvalidNumber xcsl_InvalidNumber xccs_InvalidNumber : Array (Option Value)} {xdn_InvalidNumber : Nat} {xcvs_InvalidNumber : Array Value} {xfile_InvalidNumber : Str} {xtf_InvalidNumber : Tok}
    (aC_InvalidNumber : PySem.W.nsIn K mainGlobals "InvalidNumber" = some (some (.ref C_InvalidNumber))) (xB_InvalidNumber : xclsB K C_InvalidNumber = true) (xa_InvalidNumber : PySem.W.findIn K (.ref C_InvalidNumber) "__init__" = some (some (.ref xf_InvalidNumber))) (xt_InvalidNumber : PySem.W.typeIn K (.ref xf_InvalidNumber) = some (.type "function"))
    (xl_InvalidNumber : K.lookup xf_InvalidNumber = some ⟨xoc_InvalidNumber, xod_InvalidNumber, .func (PySem.W.ksFn "__init__" "InvalidNumber.__init__" (defArgs s_InvalidNumber_init) (defBody s_InvalidNumber_init) (defScope s_InvalidNumber_init) (.ref xdt_InvalidNumber) xkV_InvalidNumber xdoc_InvalidNumber xpm_InvalidNumber xan_InvalidNumber (.ref xcd_InvalidNumber) xct_InvalidNumber xcc_InvalidNumber), xsl_InvalidNumber⟩) (xc_InvalidNumber : PySem.W.codeIn K (.ref xcd_InvalidNumber) "InvalidNumber.__init__" = true)
    (xd_InvalidNumber : K.lookup xdt_InvalidNumber = some ⟨xto_InvalidNumber, xtd_InvalidNumber, .seq #[.none] xdn_InvalidNumber, xts_InvalidNumber⟩) (xe_InvalidNumber : K.lookup xcc_InvalidNumber = some ⟨xcl_InvalidNumber, xcld_InvalidNumber, .cell (some (.ref C_InvalidNumber)), xcsl_InvalidNumber⟩) (xg_InvalidNumber : K.lookup xcd_InvalidNumber = some ⟨xccl_InvalidNumber, xcdd_InvalidNumber, .fields xcvs_InvalidNumber, xccs_InvalidNumber⟩) (xh_InvalidNumber : xcvs_InvalidNumber[2]? = some (.str xfile_InvalidNumber xtf_InvalidNumber)) (xj_InvalidNumber : ((l.prog.main.file : Str) == xfile_InvalidNumber) = true)
    (xm_InvalidNumber : PySem.W.exmOne K (.ref C_InvalidNumber) (.ref C_CountError) = some true) (x0_InvalidNumber : PySem.W.kitOne K (.type "NoneType") (.ref C_InvalidNumber) = some false)
    {xoc_InvalidRun xkV_InvalidRun xdoc_InvalidRun xpm_InvalidRun xct_InvalidRun xto_InvalidRun xcl_InvalidRun xccl_InvalidRun : Value} {xod_InvalidRun xan_InvalidRun xtd_InvalidRun xcld_InvalidRun xcdd_InvalidRun : Option Addr} {xsl_InvalidRun xts_InvalidRun xcsl_InvalidRun xccs_InvalidRun : Array (Option Value)} {xdn_InvalidRun : Nat} {xcvs_InvalidRun : Array Value} {xfile_InvalidRun : Str} {xtf_InvalidRun : Tok}
    (aC_InvalidRun : PySem.W.nsIn K mainGlobals "InvalidRun" = some (some (.ref C_InvalidRun))) (xB_InvalidRun : xclsB K C_InvalidRun = true) (xa_InvalidRun : PySem.W.findIn K (.ref C_InvalidRun) "__init__" = some (some (.ref xf_InvalidRun))) (xt_InvalidRun : PySem.W.typeIn K (.ref xf_InvalidRun) = some (.type "function"))
    (xl_InvalidRun : K.lookup xf_InvalidRun = some ⟨xoc_InvalidRun, xod_InvalidRun, .func (PySem.W.ksFn "__init__" "InvalidRun.__init__" (defArgs s_InvalidRun_init) (defBody s_InvalidRun_init) (defScope s_InvalidRun_init) (.ref xdt_InvalidRun) xkV_InvalidRun xdoc_InvalidRun xpm_InvalidRun xan_InvalidRun (.ref xcd_InvalidRun) xct_InvalidRun xcc_InvalidRun), xsl_InvalidRun⟩) (xc_InvalidRun : PySem.W.codeIn K (.ref xcd_InvalidRun) "InvalidRun.__init__" = true)
    (xd_InvalidRun : K.lookup xdt_InvalidRun = some ⟨xto_InvalidRun, xtd_InvalidRun, .seq #[.none] xdn_InvalidRun, xts_InvalidRun⟩) (xe_InvalidRun : K.lookup xcc_InvalidRun = some ⟨xcl_InvalidRun, xcld_InvalidRun, .cell (some (.ref C_InvalidRun)), xcsl_InvalidRun⟩) (xg_InvalidRun : K.lookup xcd_InvalidRun = some ⟨xccl_InvalidRun, xcdd_InvalidRun, .fields xcvs_InvalidRun, xccs_InvalidRun⟩) (xh_InvalidRun : xcvs_InvalidRun[2]? = some (.str xfile_InvalidRun xtf_InvalidRun)) (xj_InvalidRun : ((l.prog.main.file : Str) == xfile_InvalidRun) = true)
    (xm_InvalidRun : PySem.W.exmOne K (.ref C_InvalidRun) (.ref C_CountError) = some true) (x0_InvalidRun : PySem.W.kitOne K (.type "NoneType") (.ref C_InvalidRun) = some false)
    (xk_InvalidList_InvalidList : PySem.W.kitOne K (.ref C_InvalidList) (.ref C_InvalidList) = some true)
    (xk_InvalidList_InvalidNumber : PySem.W.kitOne K (.ref C_InvalidList) (.ref C_InvalidNumber) = some false)
    (xk_InvalidList_InvalidRun : PySem.W.kitOne K (.ref C_InvalidList) (.ref C_InvalidRun) = some false)
    (xk_InvalidNumber_InvalidList : PySem.W.kitOne K (.ref C_InvalidNumber) (.ref C_InvalidList) = some false)
    (xk_InvalidNumber_InvalidNumber : PySem.W.kitOne K (.ref C_InvalidNumber) (.ref C_InvalidNumber) = some true)
    (xk_InvalidNumber_InvalidRun : PySem.W.kitOne K (.ref C_InvalidNumber) (.ref C_InvalidRun) = some false)
    (xk_InvalidRun_InvalidList : PySem.W.kitOne K (.ref C_InvalidRun) (.ref C_InvalidList) = some false)
    (xk_InvalidRun_InvalidNumber : PySem.W.kitOne K (.ref C_InvalidRun) (.ref C_InvalidNumber) = some false)
    (xk_InvalidRun_InvalidRun : PySem.W.kitOne K (.ref C_InvalidRun) (.ref C_InvalidRun) = some true)
    (a0 : PySem.W.nsIn K mainGlobals "_law_generator" = some (some (.ref f0))) (l0 : K.lookup f0 = some ⟨oc0, od0, .func (PySem.W.fnOf "_law_generator" "_law_generator" (defArgs s_law_generator) (defBody s_law_generator) (defScope s_law_generator) .none kV0 dc0 pm0 an0 cd0 ct0), sl0⟩) (c0 : PySem.W.codeIn K cd0 "_law_generator" = true) (k0 : PySem.W.keepIn K (.ref f0) = true)
    (a1 : PySem.W.nsIn K mainGlobals "step_back" = some (some (.ref f1))) (l1 : K.lookup f1 = some ⟨oc1, od1, .func (PySem.W.fnOf "step_back" "step_back" (defArgs s_step_back) (defBody s_step_back) (defScope s_step_back) .none kV1 dc1 pm1 an1 cd1 ct1), sl1⟩) (c1 : PySem.W.codeIn K cd1 "step_back" = true) (k1 : PySem.W.keepIn K (.ref f1) = true)
    (a2 : PySem.W.nsIn K mainGlobals "shortened" = some (some (.ref f2))) (l2 : K.lookup f2 = some ⟨oc2, od2, .func (PySem.W.fnOf "shortened" "shortened" (defArgs s_shortened) (defBody s_shortened) (defScope s_shortened) .none kV2 dc2 pm2 an2 cd2 ct2), sl2⟩) (c2 : PySem.W.codeIn K cd2 "shortened" = true) (k2 : PySem.W.keepIn K (.ref f2) = true)
    (a3 : PySem.W.nsIn K mainGlobals "is_whole" = some (some (.ref f3))) (l3 : K.lookup f3 = some ⟨oc3, od3, .func (PySem.W.fnOf "is_whole" "is_whole" (defArgs s_is_whole) (defBody s_is_whole) (defScope s_is_whole) .none kV3 dc3 pm3 an3 cd3 ct3), sl3⟩) (c3 : PySem.W.codeIn K cd3 "is_whole" = true) (k3 : PySem.W.keepIn K (.ref f3) = true)
    (a4 : PySem.W.nsIn K mainGlobals "is_worth" = some (some (.ref f4))) (l4 : K.lookup f4 = some ⟨oc4, od4, .func (PySem.W.fnOf "is_worth" "is_worth" (defArgs s_is_worth) (defBody s_is_worth) (defScope s_is_worth) .none kV4 dc4 pm4 an4 cd4 ct4), sl4⟩) (c4 : PySem.W.codeIn K cd4 "is_worth" = true) (k4 : PySem.W.keepIn K (.ref f4) = true)
    (a5 : PySem.W.nsIn K mainGlobals "are_worths" = some (some (.ref f5))) (l5 : K.lookup f5 = some ⟨oc5, od5, .func (PySem.W.fnOf "are_worths" "are_worths" (defArgs s_are_worths) (defBody s_are_worths) (defScope s_are_worths) .none kV5 dc5 pm5 an5 cd5 ct5), sl5⟩) (c5 : PySem.W.codeIn K cd5 "are_worths" = true) (k5 : PySem.W.keepIn K (.ref f5) = true)
    (a6 : PySem.W.nsIn K mainGlobals "is_slope" = some (some (.ref f6))) (l6 : K.lookup f6 = some ⟨oc6, od6, .func (PySem.W.fnOf "is_slope" "is_slope" (defArgs s_is_slope) (defBody s_is_slope) (defScope s_is_slope) .none kV6 dc6 pm6 an6 cd6 ct6), sl6⟩) (c6 : PySem.W.codeIn K cd6 "is_slope" = true) (k6 : PySem.W.keepIn K (.ref f6) = true)
    (a7 : PySem.W.nsIn K mainGlobals "least_run" = some (some (.ref f7))) (l7 : K.lookup f7 = some ⟨oc7, od7, .func (PySem.W.fnOf "least_run" "least_run" (defArgs s_least_run) (defBody s_least_run) (defScope s_least_run) .none kV7 dc7 pm7 an7 cd7 ct7), sl7⟩) (c7 : PySem.W.codeIn K cd7 "least_run" = true) (k7 : PySem.W.keepIn K (.ref f7) = true)
    (a8 : PySem.W.nsIn K mainGlobals "is_run" = some (some (.ref f8))) (l8 : K.lookup f8 = some ⟨oc8, od8, .func (PySem.W.fnOf "is_run" "is_run" (defArgs s_is_run) (defBody s_is_run) (defScope s_is_run) .none kV8 dc8 pm8 an8 cd8 ct8), sl8⟩) (c8 : PySem.W.codeIn K cd8 "is_run" = true) (k8 : PySem.W.keepIn K (.ref f8) = true)
    (a9 : PySem.W.nsIn K mainGlobals "check_run" = some (some (.ref f9))) (l9 : K.lookup f9 = some ⟨oc9, od9, .func (PySem.W.fnOf "check_run" "check_run" (defArgs s_check_run) (defBody s_check_run) (defScope s_check_run) .none kV9 dc9 pm9 an9 cd9 ct9), sl9⟩) (c9 : PySem.W.codeIn K cd9 "check_run" = true) (k9 : PySem.W.keepIn K (.ref f9) = true)
    (a10 : PySem.W.nsIn K mainGlobals "is_between" = some (some (.ref f10))) (l10 : K.lookup f10 = some ⟨oc10, od10, .func (PySem.W.fnOf "is_between" "is_between" (defArgs s_is_between) (defBody s_is_between) (defScope s_is_between) .none kV10 dc10 pm10 an10 cd10 ct10), sl10⟩) (c10 : PySem.W.codeIn K cd10 "is_between" = true) (k10 : PySem.W.keepIn K (.ref f10) = true)
    (a11 : PySem.W.nsIn K mainGlobals "check_number" = some (some (.ref f11))) (l11 : K.lookup f11 = some ⟨oc11, od11, .func (PySem.W.fnOf "check_number" "check_number" (defArgs s_check_number) (defBody s_check_number) (defScope s_check_number) .none kV11 dc11 pm11 an11 cd11 ct11), sl11⟩) (c11 : PySem.W.codeIn K cd11 "check_number" = true) (k11 : PySem.W.keepIn K (.ref f11) = true)
    (a12 : PySem.W.nsIn K mainGlobals "value_of" = some (some (.ref f12))) (l12 : K.lookup f12 = some ⟨oc12, od12, .func (PySem.W.fnOf "value_of" "value_of" (defArgs s_value_of) (defBody s_value_of) (defScope s_value_of) .none kV12 dc12 pm12 an12 cd12 ct12), sl12⟩) (c12 : PySem.W.codeIn K cd12 "value_of" = true) (k12 : PySem.W.keepIn K (.ref f12) = true)
    (a13 : PySem.W.nsIn K mainGlobals "run_value" = some (some (.ref f13))) (l13 : K.lookup f13 = some ⟨oc13, od13, .func (PySem.W.fnOf "run_value" "run_value" (defArgs s_run_value) (defBody s_run_value) (defScope s_run_value) .none kV13 dc13 pm13 an13 cd13 ct13), sl13⟩) (c13 : PySem.W.codeIn K cd13 "run_value" = true) (k13 : PySem.W.keepIn K (.ref f13) = true)
    (a14 : PySem.W.nsIn K mainGlobals "_law_caught" = some (some (.ref f14))) (l14 : K.lookup f14 = some ⟨oc14, od14, .func (PySem.W.fnOf "_law_caught" "_law_caught" (defArgs s_law_caught) (defBody s_law_caught) (defScope s_law_caught) .none kV14 dc14 pm14 an14 cd14 ct14), sl14⟩) (c14 : PySem.W.codeIn K cd14 "_law_caught" = true) (k14 : PySem.W.keepIn K (.ref f14) = true)
    (a15 : PySem.W.nsIn K mainGlobals "_law_refused" = some (some (.ref f15))) (l15 : K.lookup f15 = some ⟨oc15, od15, .func (PySem.W.fnOf "_law_refused" "_law_refused" (defArgs s_law_refused) (defBody s_law_refused) (defScope s_law_refused) .none kV15 dc15 pm15 an15 cd15 ct15), sl15⟩) (c15 : PySem.W.codeIn K cd15 "_law_refused" = true) (k15 : PySem.W.keepIn K (.ref f15) = true)
    (a16 : PySem.W.nsIn K mainGlobals "_law_value" = some (some (.ref f16))) (l16 : K.lookup f16 = some ⟨oc16, od16, .func (PySem.W.fnOf "_law_value" "_law_value" (defArgs s_law_value) (defBody s_law_value) (defScope s_law_value) .none kV16 dc16 pm16 an16 cd16 ct16), sl16⟩) (c16 : PySem.W.codeIn K cd16 "_law_value" = true) (k16 : PySem.W.keepIn K (.ref f16) = true)
    (a17 : PySem.W.nsIn K mainGlobals "_law_whole" = some (some (.ref f17))) (l17 : K.lookup f17 = some ⟨oc17, od17, .func (PySem.W.fnOf "_law_whole" "_law_whole" (defArgs s_law_whole) (defBody s_law_whole) (defScope s_law_whole) .none kV17 dc17 pm17 an17 cd17 ct17), sl17⟩) (c17 : PySem.W.codeIn K cd17 "_law_whole" = true) (k17 : PySem.W.keepIn K (.ref f17) = true)
    (a18 : PySem.W.nsIn K mainGlobals "_law_is_least" = some (some (.ref f18))) (l18 : K.lookup f18 = some ⟨oc18, od18, .func (PySem.W.fnOf "_law_is_least" "_law_is_least" (defArgs s_law_is_least) (defBody s_law_is_least) (defScope s_law_is_least) .none kV18 dc18 pm18 an18 cd18 ct18), sl18⟩) (c18 : PySem.W.codeIn K cd18 "_law_is_least" = true) (k18 : PySem.W.keepIn K (.ref f18) = true)
    (a19 : PySem.W.nsIn K mainGlobals "_law_hash" = some (some (.ref f19))) (l19 : K.lookup f19 = some ⟨oc19, od19, .func (PySem.W.fnOf "_law_hash" "_law_hash" (defArgs s_law_hash) (defBody s_law_hash) (defScope s_law_hash) .none kV19 dc19 pm19 an19 cd19 ct19), sl19⟩) (c19 : PySem.W.codeIn K cd19 "_law_hash" = true) (k19 : PySem.W.keepIn K (.ref f19) = true)
    (a20 : PySem.W.nsIn K mainGlobals "_law_random" = some (some (.ref f20))) (l20 : K.lookup f20 = some ⟨oc20, od20, .func (PySem.W.fnOf "_law_random" "_law_random" (defArgs s_law_random) (defBody s_law_random) (defScope s_law_random) .none kV20 dc20 pm20 an20 cd20 ct20), sl20⟩) (c20 : PySem.W.codeIn K cd20 "_law_random" = true) (k20 : PySem.W.keepIn K (.ref f20) = true)
    (a21 : PySem.W.nsIn K mainGlobals "_law_least_good" = some (some (.ref f21))) (l21 : K.lookup f21 = some ⟨oc21, od21, .func (PySem.W.fnOf "_law_least_good" "_law_least_good" (defArgs s_law_least_good) (defBody s_law_least_good) (defScope s_law_least_good) .none kV21 dc21 pm21 an21 cd21 ct21), sl21⟩) (c21 : PySem.W.codeIn K cd21 "_law_least_good" = true) (k21 : PySem.W.keepIn K (.ref f21) = true)
    (a22 : PySem.W.nsIn K mainGlobals "_law_worth" = some (some (.ref f22))) (l22 : K.lookup f22 = some ⟨oc22, od22, .func (PySem.W.fnOf "_law_worth" "_law_worth" (defArgs s_law_worth) (defBody s_law_worth) (defScope s_law_worth) .none kV22 dc22 pm22 an22 cd22 ct22), sl22⟩) (c22 : PySem.W.codeIn K cd22 "_law_worth" = true) (k22 : PySem.W.keepIn K (.ref f22) = true)
    (a23 : PySem.W.nsIn K mainGlobals "_law_back" = some (some (.ref f23))) (l23 : K.lookup f23 = some ⟨oc23, od23, .func (PySem.W.fnOf "_law_back" "_law_back" (defArgs s_law_back) (defBody s_law_back) (defScope s_law_back) .none kV23 dc23 pm23 an23 cd23 ct23), sl23⟩) (c23 : PySem.W.codeIn K cd23 "_law_back" = true) (k23 : PySem.W.keepIn K (.ref f23) = true)
    (a24 : PySem.W.nsIn K mainGlobals "_law_raw_run" = some (some (.ref f24))) (l24 : K.lookup f24 = some ⟨oc24, od24, .func (PySem.W.fnOf "_law_raw_run" "_law_raw_run" (defArgs s_law_raw_run) (defBody s_law_raw_run) (defScope s_law_raw_run) .none kV24 dc24 pm24 an24 cd24 ct24), sl24⟩) (c24 : PySem.W.codeIn K cd24 "_law_raw_run" = true) (k24 : PySem.W.keepIn K (.ref f24) = true)
    (a25 : PySem.W.nsIn K mainGlobals "law" = some (some (.ref f25))) (l25 : K.lookup f25 = some ⟨oc25, od25, .func (PySem.W.fnOf "law" "law" (defArgs s_law) (defBody s_law) (defScope s_law) .none kV25 dc25 pm25 an25 cd25 ct25), sl25⟩) (c25 : PySem.W.codeIn K cd25 "law" = true) (k25 : PySem.W.keepIn K (.ref f25) = true)
    (z_bool : PySem.W.nsIn K mainGlobals "bool" = some none)
    (z_int : PySem.W.nsIn K mainGlobals "int" = some none)
    (z_isinstance : PySem.W.nsIn K mainGlobals "isinstance" = some none)
    (z_len : PySem.W.nsIn K mainGlobals "len" = some none)
    (z_list : PySem.W.nsIn K mainGlobals "list" = some none)
    (z_max : PySem.W.nsIn K mainGlobals "max" = some none)
    (z_range : PySem.W.nsIn K mainGlobals "range" = some none)
    (z_repr : PySem.W.nsIn K mainGlobals "repr" = some none)
    (z_sum : PySem.W.nsIn K mainGlobals "sum" = some none)
    (z_super : PySem.W.nsIn K mainGlobals "super" = some none)
    (z_tuple : PySem.W.nsIn K mainGlobals "tuple" = some none)
    : ∃ fd : FuncData, (∀ (s : Shared) (v : Value), BindsTo s fd ⟨[v], []⟩ [("_law_script", v)]) ∧ ∀ base : Heap, K.In base → base.Ns mainGlobals mg → DG.FnG l.prog w K mg base CX0 9 fa fd ["_law_script"] (spD 1 (F_law K C_InvalidList C_InvalidNumber C_InvalidRun)) := by
  have e := hfa.symm.trans (PySem.W.mg_of X G a25)
  cases e
  have F0 := fun_mk (st := s_law_generator) l0 c0 k0
  have F1 := fun_mk (st := s_step_back) l1 c1 k1
  have F2 := fun_mk (st := s_shortened) l2 c2 k2
  have F3 := fun_mk (st := s_is_whole) l3 c3 k3
  have F4 := fun_mk (st := s_is_worth) l4 c4 k4
  have F5 := fun_mk (st := s_are_worths) l5 c5 k5
  have F6 := fun_mk (st := s_is_slope) l6 c6 k6
  have F7 := fun_mk (st := s_least_run) l7 c7 k7
  have F8 := fun_mk (st := s_is_run) l8 c8 k8
  have F9 := fun_mk (st := s_check_run) l9 c9 k9
  have F10 := fun_mk (st := s_is_between) l10 c10 k10
  have F11 := fun_mk (st := s_check_number) l11 c11 k11
  have F12 := fun_mk (st := s_value_of) l12 c12 k12
  have F13 := fun_mk (st := s_run_value) l13 c13 k13
  have F14 := fun_mk (st := s_law_caught) l14 c14 k14
  have F15 := fun_mk (st := s_law_refused) l15 c15 k15
  have F16 := fun_mk (st := s_law_value) l16 c16 k16
  have F17 := fun_mk (st := s_law_whole) l17 c17 k17
  have F18 := fun_mk (st := s_law_is_least) l18 c18 k18
  have F19 := fun_mk (st := s_law_hash) l19 c19 k19
  have F20 := fun_mk (st := s_law_random) l20 c20 k20
  have F21 := fun_mk (st := s_law_least_good) l21 c21 k21
  have F22 := fun_mk (st := s_law_worth) l22 c22 k22
  have F23 := fun_mk (st := s_law_back) l23 c23 k23
  have F24 := fun_mk (st := s_law_raw_run) l24 c24 k24
  have F25 := fun_mk (st := s_law) l25 c25 k25
  have b0 := F0.binds (ps := ["_law_script", "_law_index"]) fun _ _ _ _ _ _ us hl => match us, hl with | [_, _], _ => rfl
  have b1 := F1.binds (ps := ["start", "slope"]) fun _ _ _ _ _ _ us hl => match us, hl with | [_, _], _ => rfl
  have b2 := F2.binds (ps := ["first", "start", "slope"]) fun _ _ _ _ _ _ us hl => match us, hl with | [_, _, _], _ => rfl
  have b3 := F3.binds (ps := ["value"]) fun _ _ _ _ _ _ us hl => match us, hl with | [_], _ => rfl
  have b4 := F4.binds (ps := ["value"]) fun _ _ _ _ _ _ us hl => match us, hl with | [_], _ => rfl
  have b5 := F5.binds (ps := ["value"]) fun _ _ _ _ _ _ us hl => match us, hl with | [_], _ => rfl
  have b6 := F6.binds (ps := ["start", "slope"]) fun _ _ _ _ _ _ us hl => match us, hl with | [_, _], _ => rfl
  have b7 := F7.binds (ps := ["first", "start", "slope"]) fun _ _ _ _ _ _ us hl => match us, hl with | [_, _, _], _ => rfl
  have b8 := F8.binds (ps := ["value"]) fun _ _ _ _ _ _ us hl => match us, hl with | [_], _ => rfl
  have b9 := F9.binds (ps := ["run"]) fun _ _ _ _ _ _ us hl => match us, hl with | [_], _ => rfl
  have b10 := F10.binds (ps := ["value", "low", "high"]) fun _ _ _ _ _ _ us hl => match us, hl with | [_, _, _], _ => rfl
  have b11 := F11.binds (ps := ["number", "low", "high"]) fun _ _ _ _ _ _ us hl => match us, hl with | [_, _, _], _ => rfl
  have b12 := F12.binds (ps := ["run", "number"]) fun _ _ _ _ _ _ us hl => match us, hl with | [_, _], _ => rfl
  have b13 := F13.binds (ps := ["run", "number"]) fun _ _ _ _ _ _ us hl => match us, hl with | [_, _], _ => rfl
  have b14 := F14.binds (ps := ["_law_which", "_law_given"]) fun _ _ _ _ _ _ us hl => match us, hl with | [_, _], _ => rfl
  have b15 := F15.binds (ps := []) fun _ _ _ _ _ _ us hl => match us, hl with | [], _ => rfl
  have b16 := F16.binds (ps := ["_law_run", "_law_number"]) fun _ _ _ _ _ _ us hl => match us, hl with | [_, _], _ => rfl
  have b17 := F17.binds (ps := ["_law_value_here"]) fun _ _ _ _ _ _ us hl => match us, hl with | [_], _ => rfl
  have b18 := F18.binds (ps := ["_law_run"]) fun _ _ _ _ _ _ us hl => match us, hl with | [_], _ => rfl
  have b19 := F19.binds (ps := ["_law_seed", "_law_index"]) fun _ _ _ _ _ _ us hl => match us, hl with | [_, _], _ => rfl
  have b20 := F20.binds (ps := ["_law_generator_here", "_law_bound"]) fun _ _ _ _ _ _ us hl => match us, hl with | [_, _], _ => rfl
  have b21 := F21.binds (ps := ["_law_generator_here", "_law_raw"]) fun _ _ _ _ _ _ us hl => match us, hl with | [_, _], _ => rfl
  have b22 := F22.binds (ps := ["_law_generator_here"]) fun _ _ _ _ _ _ us hl => match us, hl with | [_], _ => rfl
  have b23 := F23.binds (ps := ["_law_start", "_law_slope"]) fun _ _ _ _ _ _ us hl => match us, hl with | [_, _], _ => rfl
  have b24 := F24.binds (ps := ["_law_generator_here", "_law_most"]) fun _ _ _ _ _ _ us hl => match us, hl with | [_, _], _ => rfl
  have b25 := F25.binds (ps := ["_law_script"]) fun _ _ _ _ _ _ us hl => match us, hl with | [_], _ => rfl
  let T : Txt l.prog K mg := ⟨C_CountError, PySem.W.mg_of X G aC_CountError, C_InvalidList, PySem.W.mg_of X G aC_InvalidList, xclsB_ok xB_InvalidList, xf_InvalidList, _, xa_InvalidList, xt_InvalidList, funS_mk (xclsB_ok xB_InvalidList) xl_InvalidList xc_InvalidList xd_InvalidList xe_InvalidList xg_InvalidList xh_InvalidList xj_InvalidList xtop, xm_InvalidList, x0_InvalidList, C_InvalidNumber, PySem.W.mg_of X G aC_InvalidNumber, xclsB_ok xB_InvalidNumber, xf_InvalidNumber, _, xa_InvalidNumber, xt_InvalidNumber, funS_mk (xclsB_ok xB_InvalidNumber) xl_InvalidNumber xc_InvalidNumber xd_InvalidNumber xe_InvalidNumber xg_InvalidNumber xh_InvalidNumber xj_InvalidNumber xtop, xm_InvalidNumber, x0_InvalidNumber, C_InvalidRun, PySem.W.mg_of X G aC_InvalidRun, xclsB_ok xB_InvalidRun, xf_InvalidRun, _, xa_InvalidRun, xt_InvalidRun, funS_mk (xclsB_ok xB_InvalidRun) xl_InvalidRun xc_InvalidRun xd_InvalidRun xe_InvalidRun xg_InvalidRun xh_InvalidRun xj_InvalidRun xtop, xm_InvalidRun, x0_InvalidRun, xk_InvalidList_InvalidList, xk_InvalidList_InvalidNumber, xk_InvalidList_InvalidRun, xk_InvalidNumber_InvalidList, xk_InvalidNumber_InvalidNumber, xk_InvalidNumber_InvalidRun, xk_InvalidRun_InvalidList, xk_InvalidRun_InvalidNumber, xk_InvalidRun_InvalidRun, _, _, F0, b0, PySem.W.mg_of X G a0, _, _, F1, b1, PySem.W.mg_of X G a1, _, _, F2, b2, PySem.W.mg_of X G a2, _, _, F3, b3, PySem.W.mg_of X G a3, _, _, F4, b4, PySem.W.mg_of X G a4, _, _, F5, b5, PySem.W.mg_of X G a5, _, _, F6, b6, PySem.W.mg_of X G a6, _, _, F7, b7, PySem.W.mg_of X G a7, _, _, F8, b8, PySem.W.mg_of X G a8, _, _, F9, b9, PySem.W.mg_of X G a9, _, _, F10, b10, PySem.W.mg_of X G a10, _, _, F11, b11, PySem.W.mg_of X G a11, _, _, F12, b12, PySem.W.mg_of X G a12, _, _, F13, b13, PySem.W.mg_of X G a13, _, _, F14, b14, PySem.W.mg_of X G a14, _, _, F15, b15, PySem.W.mg_of X G a15, _, _, F16, b16, PySem.W.mg_of X G a16, _, _, F17, b17, PySem.W.mg_of X G a17, _, _, F18, b18, PySem.W.mg_of X G a18, _, _, F19, b19, PySem.W.mg_of X G a19, _, _, F20, b20, PySem.W.mg_of X G a20, _, _, F21, b21, PySem.W.mg_of X G a21, _, _, F22, b22, PySem.W.mg_of X G a22, _, _, F23, b23, PySem.W.mg_of X G a23, _, _, F24, b24, PySem.W.mg_of X G a24, _, _, F25, b25, PySem.W.mg_of X G a25, PySem.W.mg_none_of X G z_bool, PySem.W.mg_none_of X G z_int, PySem.W.mg_none_of X G z_isinstance, PySem.W.mg_none_of X G z_len, PySem.W.mg_none_of X G z_list, PySem.W.mg_none_of X G z_max, PySem.W.mg_none_of X G z_range, PySem.W.mg_none_of X G z_repr, PySem.W.mg_none_of X G z_sum, PySem.W.mg_none_of X G z_super, PySem.W.mg_none_of X G z_tuple⟩
  exact ⟨PySem.W.fnOf "law" "law" (defArgs s_law) (defBody s_law) (defScope s_law) .none kV25 dc25 pm25 an25 cd25 ct25, fun s v => .of_eq rfl, fun base _ _ => ok_law T⟩
end Law

set_option Elab.async false
set_option linter.all false
set_option maxRecDepth 100000
set_option maxHeartbeats 8000000
-- mc
local macro_rules
  | `(tactic| simp! only [$as,*] $[$l]?) => `(tactic| simp only [
    DL.e_c, DL.e_nil, DL.e_cons, DL.e_op, DL.e_un, DL.e_cb, DL.e_if, DL.e_test, DL.e_and, DL.e_or, DL.e_not, DL.e_andV, DL.e_orV, DL.e_notV, DL.e_chain, 
    DL.e_tup, DL.e_lst, DL.e_lLst, DL.e_lListOf, DL.e_ofL, DL.e_part, DL.e_noPart, DL.e_sl, DL.e_isi, DL.e_yes, DL.e_bits, DL.e_seq, DL.e_next, DL.e_brk, 
    DL.e_cont, DL.e_never, DL.e_asg, DL.e_ret, DL.e_retN, DL.e_sif, DL.e_drop, DL.e_own, DL.e_par, DL.e_parOD, DL.e_parDO, DL.e_par3, DL.e_app, DL.e_setI, 
    DL.e_aug, DL.e_for, DL.e_call, DL.e_callN, DL.e_new, DL.e_then, DL.e_callF, DL.e_callF0, DL.e_seqIt, DL.e_rng1, DL.e_rng2, DL.e_zipN, DL.e_zipS, 
    DL.e_gtup, DL.e_gnil, DL.e_gcons, DL.e_frzs0, DL.e_frzs1, DL.e_g1, DL.e_g2, DL.e_loop0, DL.e_loop1, DL.e_run, DL.e_out0, DL.e_out1, DL.e_out2, DL.e_sm, 
    DL.e_newR, DL.e_newApp, DL.e_popAt, DL.e_lchars, DL.e_pop, DL.e_runL, DL.e_fld, DL.e_meth, DL.e_lmeth, DL.e_make, DL.e_makeB, DL.e_eqO, DL.e_isO, 
    DL.e_iend, DL.e_iset, DL.e_ithen, DL.e_self0, DL.e_parOO, DL.e_lents0, DL.e_lents1, DL.e_noLs0, DL.e_noLs1, DL.e_noLtup, DL.e_noLint, DL.e_noLstr, 
    DL.e_callD, DL.e_callK, DL.e_methK, DL.e_makeK, DL.e_make0, DL.e_callB, DL.e_callKB, DL.e_gix0, DL.e_gix1, DL.e_par3C, DL.e_give, DL.e_eqT, DL.e_strIt, 
    DL.e_dget2, DL.e_putD, DL.e_parDD, DL.e_items, DL.e_dget, DL.e_din, DL.e_kNew, DL.e_kCopy, DL.e_ofK, DL.e_ownK, DL.e_parKD, DL.e_lAdd, DL.e_eqL, 
    DL.e_isOL, DL.e_newK, Nat.zero_le, Option.bind_some, Option.bind_none, Option.map_some, Option.map_none, List.length_cons, List.length_nil, 
    List.cons_append, List.nil_append, List.replicate_succ, List.replicate_zero, List.append_nil, List.getElem?_cons_zero, List.getElem?_cons_succ, 
    List.set_cons_zero, List.set_cons_succ, List.map_cons, List.map_nil, Nat.reduceAdd, Nat.reduceSub, Nat.reduceLT, Nat.reduceLeDiff, Nat.reduceEqDiff, 
    if_true, if_false, reduceIte, Bool.false_eq_true, Bool.not_true, Bool.not_false, ne_eq, Int.reduceEq, Int.reduceNe, not_false_eq_true, 
    not_true_eq_false, Int.reduceLT, Int.reduceLE, Int.reduceNeg, Int.reduceSub, Int.reduceAdd, decide_true, decide_false, true_and, and_true, and_false, 
    false_and, and_self, DL.fVar, DL.fName, DL.val, DL.frz, DL.look, DL.asB, DL.asI, DL.gAdd, DL.gMul, DL.gMod, DL.gFdiv, DL.gMinus, DL.gInt, DL.gInt1, 
    DL.gI1, DL.gI2, DL.gGt, DL.gLt, DL.gLe, DL.gGe, DL.gCmp, DL.gIx, DL.seqL, DL.asSeq, DL.asSeqF, DL.ownL, DL.gSl, DL.gLen, DL.gListOf, DL.gTupOf, DL.gIs, 
    DL.canSet, DL.noOwnB, DL.asS, DL.lent, eq_self, DL.lents, DL.noL, DL.noLs, DL.keyOf, DL.isOwnD, DL.dctL, $as,*] $[$l]?)
local macro_rules
  | `(tactic| simp! [$as,*] $[$l]?) => `(tactic| simp only [
    DL.e_c, DL.e_nil, DL.e_cons, DL.e_op, DL.e_un, DL.e_cb, DL.e_if, DL.e_test, DL.e_and, DL.e_or, DL.e_not, DL.e_andV, DL.e_orV, DL.e_notV, DL.e_chain, 
    DL.e_tup, DL.e_lst, DL.e_lLst, DL.e_lListOf, DL.e_ofL, DL.e_part, DL.e_noPart, DL.e_sl, DL.e_isi, DL.e_yes, DL.e_bits, DL.e_seq, DL.e_next, DL.e_brk, 
    DL.e_cont, DL.e_never, DL.e_asg, DL.e_ret, DL.e_retN, DL.e_sif, DL.e_drop, DL.e_own, DL.e_par, DL.e_parOD, DL.e_parDO, DL.e_par3, DL.e_app, DL.e_setI, 
    DL.e_aug, DL.e_for, DL.e_call, DL.e_callN, DL.e_new, DL.e_then, DL.e_callF, DL.e_callF0, DL.e_seqIt, DL.e_rng1, DL.e_rng2, DL.e_zipN, DL.e_zipS, 
    DL.e_gtup, DL.e_gnil, DL.e_gcons, DL.e_frzs0, DL.e_frzs1, DL.e_g1, DL.e_g2, DL.e_loop0, DL.e_loop1, DL.e_run, DL.e_out0, DL.e_out1, DL.e_out2, DL.e_sm, 
    DL.e_newR, DL.e_newApp, DL.e_popAt, DL.e_lchars, DL.e_pop, DL.e_runL, DL.e_fld, DL.e_meth, DL.e_lmeth, DL.e_make, DL.e_makeB, DL.e_eqO, DL.e_isO, 
    DL.e_iend, DL.e_iset, DL.e_ithen, DL.e_self0, DL.e_parOO, DL.e_lents0, DL.e_lents1, DL.e_noLs0, DL.e_noLs1, DL.e_noLtup, DL.e_noLint, DL.e_noLstr, 
    DL.e_callD, DL.e_callK, DL.e_methK, DL.e_makeK, DL.e_make0, DL.e_callB, DL.e_callKB, DL.e_gix0, DL.e_gix1, DL.e_par3C, DL.e_give, DL.e_eqT, DL.e_strIt, 
    DL.e_dget2, DL.e_putD, DL.e_parDD, DL.e_items, DL.e_dget, DL.e_din, DL.e_kNew, DL.e_kCopy, DL.e_ofK, DL.e_ownK, DL.e_parKD, DL.e_lAdd, DL.e_eqL, 
    DL.e_isOL, DL.e_newK, Nat.zero_le, Option.bind_some, Option.bind_none, Option.map_some, Option.map_none, List.length_cons, List.length_nil, 
    List.cons_append, List.nil_append, List.replicate_succ, List.replicate_zero, List.append_nil, List.getElem?_cons_zero, List.getElem?_cons_succ, 
    List.set_cons_zero, List.set_cons_succ, List.map_cons, List.map_nil, Nat.reduceAdd, Nat.reduceSub, Nat.reduceLT, Nat.reduceLeDiff, Nat.reduceEqDiff, 
    if_true, if_false, reduceIte, Bool.false_eq_true, Bool.not_true, Bool.not_false, ne_eq, Int.reduceEq, Int.reduceNe, not_false_eq_true, 
    not_true_eq_false, Int.reduceLT, Int.reduceLE, Int.reduceNeg, Int.reduceSub, Int.reduceAdd, decide_true, decide_false, true_and, and_true, and_false, 
    false_and, and_self, $as,*] $[$l]?)
-- cm
namespace Law
open PySem L2 DL
theorem cm {i j : Int} (h1 : i.natAbs < 2 ^ 1000) (h2 : j.natAbs < 2 ^ 1000) : CMulW i j := by
  unfold CMulW
  have a : ∀ n : Nat, n < 2 ^ 1000 → n.log2 < 1000 := fun n h => by
    by_cases z : n = 0
    · subst z
      decide
    · exact (Nat.log2_lt z).mpr h
  have := a _ h1
  have := a _ h2
  omega
theorem hash_ok {s i : Int} (h0 : 0 ≤ s) (h1 : s < 2 ^ 31) (g0 : 0 ≤ i) (g1 : i < 2 ^ 31) : ∃ h, F_law_hash [.dat (.int s), .dat (.int i)] = some (.int h, []) ∧ 0 ≤ h ∧ h < 2147483647 := by
  have m : ∀ {a b : Int} {k l : Nat}, 0 ≤ a → 0 ≤ b → a < 2 ^ k → b < 2 ^ l → 0 ≤ a * b ∧ a * b < 2 ^ (k + l) := fun {a b k l} ha hb h1 h2 => by
    refine ⟨Int.mul_nonneg ha hb, ?_⟩
    rw [Int.pow_add]
    exact Int.lt_of_le_of_lt (Int.mul_le_mul_of_nonneg_left (Int.le_of_lt h2) ha) (Int.mul_lt_mul_of_pos_right h1 (Int.pow_pos (by decide)))
  have c1 : CMulW s 1299709 := cm (by omega) (by omega)
  have c2 : CMulW 104729 i := cm (by omega) (by omega)
  have e3 := m (a := 104729 * i) (k := 60) (l := 31) (by omega) g0 (by omega) g1
  have c3 : CMulW (104729 * i) i := cm (by omega) (by omega)
  have c4 : CMulW 31 i := cm (by omega) (by omega)
  have f1 := Int.fmod_nonneg_of_pos (a := s * 1299709 + 104729 * i * i + 31 * i + 7) (b := 2147483629) (by decide)
  have f2 := Int.fmod_lt_of_pos (a := s * 1299709 + 104729 * i * i + 31 * i + 7) (b := 2147483629) (by decide)
  generalize hx : (s * 1299709 + 104729 * i * i + 31 * i + 7).fmod 2147483629 = x at f1 f2
  have e5 := m (k := 31) (l := 31) f1 f1 (by omega) (by omega)
  have c5 : CMulW x x := cm (by omega) (by omega)
  have c6 : CMulW 48271 i := cm (by omega) (by omega)
  have f3 := Int.fmod_nonneg_of_pos (a := x * x + 48271 * i + 15485863) (b := 2147483587) (by decide)
  have f4 := Int.fmod_lt_of_pos (a := x * x + 48271 * i + 15485863) (b := 2147483587) (by decide)
  generalize hy : (x * x + 48271 * i + 15485863).fmod 2147483587 = y at f3 f4
  have c7 : CMulW y 69621 := cm (by omega) (by omega)
  refine ⟨(y * 69621).fmod 2147483647, ?_, Int.fmod_nonneg_of_pos _ (by decide), Int.fmod_lt_of_pos _ (by decide)⟩
  simp! only [F_law_hash, g_law_hash, c1, c2, c3, c4, c5, c6, c7, hx, hy]
def Good (n : Nat) (xs : List Dv) : Prop := ∃ a s c : Int, xs = [.int a, .int s, .int c] ∧ 0 ≤ a ∧ 0 ≤ s ∧ s < 2 ^ 31 ∧ 0 ≤ c ∧ c ≤ n
noncomputable def rbody : SF := (sSeq (sSetI 0 (fOp gAdd (fOp gIx (fVar 0) (fC (.int (2 : Int)))) (fC (.int (1 : Int)))) (fC (.int (2 : Int))))
    (sAsg (fOp gAdd (fOp gMul (fVar 2) (fC (.int (2147483587 : Int)))) (fCall 2 none F_law_hash (fCons (fOp gIx (fVar 0) (fC (.int (1 : Int)))) (fCons (fOp gIx (fVar 0) (fC (.int (2 : Int)))) fNil)))) (fName 2)))
theorem atI3 {a b c : Dv} : atI [a, b, c] 0 = some a ∧ atI [a, b, c] 1 = some b ∧ atI [a, b, c] 2 = some c := ⟨rfl, rfl, rfl⟩
theorem ixN3 : ixN 3 0 = some 0 ∧ ixN 3 1 = some 1 ∧ ixN 3 2 = some 2 := ⟨rfl, rfl, rfl⟩
theorem rbody_ok {a s b c d : Int} {x : Slot} {h : Int} (hh : F_law_hash [.dat (.int s), .dat (.int (c + 1))] = some (.int h, [])) (hc : CMulW d 2147483587) :
    rbody [.own true [.int a, .int s, .int c], .dat (.int b), .dat (.int d), x] = some (.nx [.own true [.int a, .int s, .int (c + 1)], .dat (.int b), .dat (.int (d * 2147483587 + h)), x]) := by
  simp! only [rbody, hc, atI3.1, atI3.2.1, atI3.2.2, ixN3.1, ixN3.2.1, ixN3.2.2, hh]
theorem rloop_ok {a s b : Int} (h0 : 0 ≤ s) (h1 : s < 2 ^ 31) : ∀ (l : List Dv) (c d : Int) (x : Slot) (m : Nat), 0 ≤ c → c + l.length < 2 ^ 31 → 0 ≤ d → d < 2 ^ (32 * m) → m + l.length ≤ 30 → (∀ b xs, x ≠ .own b xs) →
    ∃ d' x', loopF (fName 3) rbody l [.own true [.int a, .int s, .int c], .dat (.int b), .dat (.int d), x] = some (.nx [.own true [.int a, .int s, .int (c + l.length)], .dat (.int b), .dat (.int d'), x']) ∧ 0 ≤ d'
  | [], c, d, x, m, _, _, hd, _, _, hx => ⟨d, x, by simp, hd⟩
  | v :: l, c, d, x, m, hc, hl, hd, hd2, hm, hx => by
    rw [List.length_cons] at hl hm
    obtain ⟨h, q1, q2, q3⟩ := hash_ok h0 h1 (i := c + 1) (by omega) (by omega)
    have e1 : (2 : Int) ^ (32 * m) ≤ 2 ^ 960 := by
      have := Nat.pow_le_pow_right (n := 2) (by decide) (show 32 * m ≤ 960 by omega)
      have := Int.ofNat_le.mpr this
      rwa [Int.natCast_pow, Int.natCast_pow] at this
    have hcm : CMulW d 2147483587 := cm (by
      have : (2 : Int) ^ 960 < 2 ^ 1000 := by decide +kernel
      have : ((2 ^ 1000 : Nat) : Int) = 2 ^ 1000 := by decide +kernel
      omega) (by decide +kernel)
    have e2 : d * 2147483587 + h < 2 ^ (32 * (m + 1)) := by
      have : (2 : Int) ^ (32 * (m + 1)) = 2 ^ (32 * m) * 2 ^ 32 := by rw [Nat.mul_add, Int.pow_add]
      rw [this]
      generalize (2 : Int) ^ (32 * m) = z at *
      omega
    obtain ⟨d', x', w1, w2⟩ := rloop_ok h0 h1 (a := a) (b := b) l (c + 1) (d * 2147483587 + h) (.dat v) (m + 1) (by omega) (by omega) (by omega) e2 (by omega) (fun _ _ z => by cases z)
    refine ⟨d', x', ?_, w2⟩
    have g : fName 3 v [.own true [.int a, .int s, .int c], .dat (.int b), .dat (.int d), x] = some [.own true [.int a, .int s, .int c], .dat (.int b), .dat (.int d), .dat v] := by
      cases x with
      | ownD ks ds => rfl
      | prv d => rfl
      | non => rfl
      | dat e => rfl
      | own b xs => exact absurd rfl (hx b xs)
    rw [e_loop1, g, Option.bind_some, rbody_ok q1 hcm, Option.bind_some]
    simp only
    rw [w1, List.length_cons]
    have e : c + 1 + (l.length : Int) = c + ((l.length + 1 : Nat) : Int) := by omega
    rw [e]
theorem rnd_ok {n : Nat} {xs : List Dv} {b : Int} (g : Good n xs) (hn : n ≤ 2 ^ 30) (hb : 0 < b) (hb2 : b < 2 ^ 200) :
    ∃ r xs', F_law_random [.own true xs, .dat (.int b)] = some (.int r, xs') ∧ 0 ≤ r ∧ r < b ∧ Good (n + 10) xs' := by
  obtain ⟨a, s, c, rfl, h1, h2, h3, h4, h5⟩ := g
  by_cases ha : 0 < a
  · have hb0 : ¬ b = 0 := by omega
    have hl : b.natAbs.log2 < 9000 := by
      have : b.natAbs.log2 < 200 := (Nat.log2_lt (by omega)).mpr (by omega)
      omega
    refine ⟨a.fmod b, [.int (a.fdiv b), .int s, .int c], ?_, Int.fmod_nonneg_of_pos _ hb, Int.fmod_lt_of_pos _ hb, _, _, _, rfl, Int.fdiv_nonneg h1 (by omega), h2, h3, h4, by omega⟩
    simp! only [F_law_random, g_law_random, gtI, ha, atI3.1, atI3.2.1, atI3.2.2, ixN3.1, ixN3.2.1, ixN3.2.2, hb0, hl]
  · have hb0 : ¬ b = 0 := by omega
    have hk : Builtin.Int.intBits b ≤ 200 := by
      have : b.natAbs.log2 < 200 := (Nat.log2_lt (by omega)).mpr (by omega)
      unfold Builtin.Int.intBits
      split <;> omega
    have f1 : (0 : Int) ≤ ((Builtin.Int.intBits b : Nat) : Int).fdiv 30 := Int.fdiv_nonneg (by omega) (by decide)
    have f2 : ((Builtin.Int.intBits b : Nat) : Int).fdiv 30 ≤ 6 := by
      rw [Int.fdiv_eq_ediv_of_nonneg _ (by decide)]
      omega
    generalize hq : ((Builtin.Int.intBits b : Nat) : Int).fdiv 30 = q at f1 f2
    have hr1 : rngC (1 + q) := rng_ok (by omega) (by omega)
    have ll : (rangeD 0 (1 + q).toNat).length = (1 + q).toNat := by simp [rangeD]
    obtain ⟨d', x', w1, w2⟩ := rloop_ok (a := a) (b := b) h2 h3 (rangeD 0 (1 + q).toNat) c 0 .non 0 h4 (by omega) (by decide) (by decide) (by omega) (fun _ _ z => by cases z)
    refine ⟨d'.fmod b, _, ?_, Int.fmod_nonneg_of_pos _ hb, Int.fmod_lt_of_pos _ hb, a, s, c + (rangeD 0 (1 + q).toNat).length, rfl, h1, h2, h3, by omega, by omega⟩
    unfold rbody at w1
    simp! only [F_law_random, g_law_random, gtI, ha, atI3.1, atI3.2.1, atI3.2.2, ixN3.1, ixN3.2.1, ixN3.2.2, hb0, hq, hr1, (show (30 : Int).natAbs.log2 < 9000 by decide)]
    rw [w1]
    simp! only [hb0]
theorem Good.mono {n m : Nat} {xs : List Dv} (h : Good n xs) (k : n ≤ m) : Good m xs := by
  obtain ⟨a, s, c, e, h1, h2, h3, h4, h5⟩ := h
  exact ⟨a, s, c, e, h1, h2, h3, h4, by omega⟩
def Fin (o : Option Out) : Prop := ∃ ys rest, o = some (.rt (.bl true) (.own true ys :: rest))
theorem fin_end {o : Option Out} {ys : List Dv} {r : DEnv} (h : o = some (.rt (.bl true) (.own true ys :: r))) : Fin o := ⟨ys, r, h⟩
theorem fin_go {f g : SF} {e e' : DEnv} (h : f e = some (.nx e')) (k : Fin (g e')) : Fin (sSeq f g e) := by
  rw [e_seq, h, Option.bind_some]
  exact k
def isW : Dv → Bool
  | .int _ => true
  | _ => false
theorem whole_ok {d : Dv} (h : pl d = true) : F_is_whole [.dat d] = some (.bl (isW d), []) := by
  cases d <;> simp only [pl, Bool.false_eq_true] at h <;> simp! only [F_is_whole, g_is_whole, isIt, isW]
theorem cell_ok {K : PySem.W.Frag} {ns : List Int} {i : Int} (h0 : 0 ≤ i) : fCell K 0 1 [.dat (.scr K ns), .dat (.int i), .non] = some (.d (.int (cellM ns i)), [.dat (.scr K ns), .dat (.int i), .non]) := by
  unfold fCell
  simp only [List.getElem?_cons_zero, List.getElem?_cons_succ]
  rw [if_pos ⟨trivial, h0⟩]
theorem gen_ok {K : PySem.W.Frag} {ns : List Int} {i : Int} (h0 : 0 ≤ i) (h1 : i ≤ 10000) : ∃ xs, F_law_generator K [.scr K ns, .int i] = some xs ∧ Good (1000 * i.toNat) xs := by
  have hz := cell_ok (K := K) (ns := ns) h0
  generalize cellM ns i = z at hz
  have p1 : CPw 10 18 := by decide +kernel
  have p2 : CPw 10 60 := by decide +kernel
  have p3 : CPw (10 ^ (60 : Int).toNat) 10 := by decide +kernel
  have c1 : CMulW 1000 i := (sm_of (k := 100) (by decide) (by decide)).cm (sm_of (k := 100) h0 (by omega)) (by decide)
  have q0 : (0 : Int) < (10 ^ (60 : Int).toNat) ^ (10 : Int).toNat := by decide +kernel
  have q : ¬ ((10 : Int) ^ (60 : Int).toNat) ^ (10 : Int).toNat = 0 := by omega
  have s1 : (3 ≤ szL) = True := by decide
  refine ⟨[.int ((maxI (z - 10 ^ (18 : Int).toNat) 0).fmod ((10 ^ (60 : Int).toNat) ^ (10 : Int).toNat)), .int (z.fmod 2147483647), .int (1000 * i)], ?_, _, _, _, rfl, Int.fmod_nonneg_of_pos _ q0, Int.fmod_nonneg_of_pos _ (by decide), ?_, by omega, by omega⟩
  · simp! only [F_law_generator, runL, g_law_generator, hz, gPow, p1, p2, p3, c1, q, s1]
    rfl
  · have := Int.fmod_lt_of_pos (a := z) (b := 2147483647) (by decide)
    omega
end Law

set_option Elab.async false
set_option linter.all false
set_option maxRecDepth 100000
set_option maxHeartbeats 8000000
namespace Law
open PySem L2 DL
/-! ### runs -/
def en : Option Int → Dv
  | none => .non
  | some i => .int i
structure Run where
  f : List (Option Int)
  s : Option Int
  k : Int
def enR (r : Run) : Dv := .tup [.lst (r.f.map en), en r.s, .int r.k]
def isWo : Dv → Bool
  | .non => true
  | .int _ => true
  | _ => false
theorem worth_ok {d : Dv} (h : pl d = true) : F_is_worth [.dat d] = some (.bl (isWo d), []) := by
  have w := whole_ok h
  cases d <;> simp only [pl, Bool.false_eq_true] at h <;> simp! only [F_is_worth, g_is_worth, isNon, w, isW, isWo, Bool.false_xor]
theorem pl_en (o : Option Int) : pl (en o) = true := by cases o <;> rfl
theorem okd_en (o : Option Int) : okd 0 (en o) := by
  cases o with
  | none => exact ⟨by decide, by decide⟩
  | some i => exact okd_int
theorem en_wo (o : Option Int) : isWo (en o) = true := by cases o <;> rfl
theorem worths_ok {ds : List Dv} (h : ∀ d ∈ ds, pl d = true ∧ okd 60 d) (hz : ds.length ≤ szL) : F_are_worths [.dat (.lst ds)] = some (.bl (ds.all isWo), []) := by
  have e1 : eqC (.lst (ds.filter fun d => !isWo d)) (.lst []) = true := eqC_ok ((okd_lst fun d hd => (h d (List.mem_filter.mp hd).1).2).mono (by decide)) ((okd_lst (n := 0) fun d hd => by cases hd).mono (by decide))
  have e2 : (ds.filter fun d => !isWo d).isEmpty = ds.all isWo := by
    clear e1 h hz
    induction ds with
    | nil => rfl
    | cons d ds ih =>
      rw [List.filter_cons, List.all_cons]
      cases isWo d
      · rfl
      · exact ih
  have e3 : fLc (fSeqIt (fVar 0)) (fName 1) (fNot (fTest (fCall 1 none F_is_worth (fCons (fVar 1) fNil)))) (fVar 1) [1] [.dat (.lst ds), .non] = some (ds.filter fun d => !isWo d, [.dat (.lst ds), .non]) := by
    have := lc_fil (t := 1) (fi := fSeqIt (fVar 0)) (ft := fNot (fTest (fCall 1 none F_is_worth (fCons (fVar 1) fNil)))) (env := [.dat (.lst ds), .non]) (e0 := [.dat (.lst ds), .non]) (l := ds) (i := id) (fun d => !isWo d)
      (by simp! only [List.map_id]) (by simp) rfl (fun d hd => by simp! only [id_eq, worth_ok (h d hd).1]) hz
    rwa [List.map_id] at this
  simp! only [F_are_worths, g_are_worths, isIt, e3, gEq, e1, eqv_nil, e2]
theorem worthsR_ok {l : List (Option Int)} (hz : l.length ≤ szL) : F_are_worths [.dat (.lst (l.map en))] = some (.bl true, []) := by
  have := worths_ok (ds := l.map en) (fun d hd => by
    obtain ⟨o, _, rfl⟩ := List.mem_map.mp hd
    exact ⟨pl_en o, (okd_en o).mono (by decide)⟩) (by rw [List.length_map]; exact hz)
  rw [this]
  have e : (l.map en).all isWo = true := by
    rw [List.all_eq_true]
    intro d hd
    obtain ⟨o, _, rfl⟩ := List.mem_map.mp hd
    exact en_wo o
  rw [e]
def sb (s : Option Int) (k : Int) : Option Int := s.map (· - k)
theorem step_back_ok (s : Option Int) (k : Int) : F_step_back [.dat (en s), .dat (.int k)] = some (en (sb s k), []) := by
  cases s <;> simp! only [F_step_back, g_step_back, en, sb, isNon, Bool.false_xor]
theorem eq_ii {i j : Int} : eqC (.int i) (.int j) = true := eqC_ok okd_int okd_int
theorem slope_ok (s : Option Int) (k : Int) : F_is_slope [.dat (en s), .dat (.int k)] = some (.bl (s.isSome || k == 0), []) := by
  have w := whole_ok (d := .int k) rfl
  cases s <;> simp! only [F_is_slope, g_is_slope, en, w, isW, isNon, gEq, eq_ii, eqv_int, Bool.true_xor, Option.isSome, Bool.true_or, Bool.false_or]
theorem eqC_en (a b : Option Int) : eqC (en a) (en b) = true := eqC_ok ((okd_en a).mono (by decide)) ((okd_en b).mono (by decide))
theorem eqv_en (a b : Option Int) : PyData.eqv (py (en a)) (py (en b)) = (a == b) := by
  cases a <;> cases b
  · rfl
  · rfl
  · rfl
  · rename_i i j
    show PyData.eqv (py (.int i)) (py (.int j)) = _
    rw [eqv_int]
    rfl
/-- == of two such values -/
theorem gEq_en {env : DEnv} {x y : RV} {a b : Option Int} (h1 : look env x = some (en a)) (h2 : look env y = some (en b)) : gEq env x y = some (.d (.bl (a == b))) := by
  have e := eqv_en a b
  have c := eqC_en a b
  unfold gEq
  rw [h1, h2]
  cases a <;> cases b <;> simp only [en] at e c ⊢ <;> rw [if_pos c, e]
theorem gNe_en {env : DEnv} {x y : RV} {a b : Option Int} (h1 : look env x = some (en a)) (h2 : look env y = some (en b)) : gNe env x y = some (.d (.bl (!(a == b)))) := by
  have e := eqv_en a b
  have c := eqC_en a b
  unfold gNe
  rw [h1, h2]
  cases a <;> cases b <;> simp only [en] at e c ⊢ <;> rw [if_pos c, e]
theorem gNe_d {env : DEnv} {a b : Option Int} : gNe env (.d (en a)) (.d (en b)) = some (.d (.bl (!(a == b)))) := gNe_en rfl rfl
theorem gEq_d {env : DEnv} {a b : Option Int} : gEq env (.d (en a)) (.d (en b)) = some (.d (.bl (a == b))) := gEq_en rfl rfl
theorem gEq_i {env : DEnv} {x y : RV} {a b : Int} (h1 : look env x = some (.int a)) (h2 : look env y = some (.int b)) : gEq env x y = some (.d (.bl (a == b))) := by
  unfold gEq
  rw [h1, h2]
  simp only [eq_ii, eqv_int, if_true]
theorem gNe_i {env : DEnv} {x y : RV} {a b : Int} (h1 : look env x = some (.int a)) (h2 : look env y = some (.int b)) : gNe env x y = some (.d (.bl (!(a == b)))) := by
  unfold gNe
  rw [h1, h2]
  simp only [eq_ii, eqv_int, if_true]
theorem gEq_id {env : DEnv} {a b : Int} : gEq env (.d (.int a)) (.d (.int b)) = some (.d (.bl (a == b))) := gEq_i rfl rfl
theorem gNe_id {env : DEnv} {a b : Int} : gNe env (.d (.int a)) (.d (.int b)) = some (.d (.bl (!(a == b)))) := gNe_i rfl rfl
/-- a run that is least -/
def Vd (r : Run) : Prop := (r.s = none → r.k = 0) ∧ r.f.getLast? ≠ some (sb r.s r.k)
theorem neg1 : gNeg = fun env x => (asI env x).map fun i => .d (.int (-i)) := rfl
theorem atI_last' {l : List (Option Int)} {x : Option Int} (h : l.getLast? = some x) : atI (l.map en) (-1) = some (en x) := by
  have hp : 0 < l.length := by
    cases l with
    | nil => cases h
    | cons _ _ => simp
  unfold atI ixN
  rw [if_neg (by decide), List.length_map]
  rw [List.getLast?_eq_getElem?] at h
  rw [if_pos (by omega)]
  show (l.map en)[_]? = _
  rw [show ((-1 : Int) + (l.length : Int)).toNat = l.length - 1 by omega, List.getElem?_map, h]
  rfl
theorem eqC_enl {l : List (Option Int)} : eqC (.lst (l.map en)) (.lst []) = true := eqC_ok ((okd_lst (n := 0) fun d hd => by
  obtain ⟨o, _, rfl⟩ := List.mem_map.mp hd
  exact okd_en o).mono (by decide)) ((okd_lst (n := 0) fun d hd => by cases hd).mono (by decide))
theorem c33 : (((3 : Nat) : Int) == 3) = true := rfl
theorem is_run_ok {r : Run} (hz : r.f.length ≤ szL) (hv : Vd r) : F_is_run [.dat (enR r)] = some (.bl true, []) := by
  obtain ⟨f, s, k⟩ := r
  obtain ⟨h1, h2⟩ := hv
  have w1 := worthsR_ok hz
  have w2 := worth_ok (pl_en s)
  have w3 := slope_ok s k
  have w4 := step_back_ok s k
  have e3 : (s.isSome || k == 0) = true := by
    cases s with
    | none =>
      have h1 : k = 0 := h1 rfl
      rw [h1]
      rfl
    | some _ => rfl
  rw [en_wo] at w2
  rw [e3] at w3
  simp only at w1 h2
  have gl : ∀ {env : DEnv} {x : RV} {l : List (Option Int)}, look env x = some (.lst (l.map en)) → gEq env x (.d (.lst [])) = some (.d (.bl l.isEmpty)) := fun {env x l} h => by
    unfold gEq
    rw [h]
    simp only [look, eqC_enl, eqv_nil, List.isEmpty_map, if_true]
  have gl1 : gEq [.dat (.tup [.lst (f.map en), en s, .int k]), .dat (.lst (f.map en)), .dat (en s), .dat (.int k)] (.v 1) (.d (.lst [])) = some (.d (.bl f.isEmpty)) := gl rfl
  have w1' : F_are_worths [.dat (.lst (f.map en))] = some (.bl true, []) := w1
  cases hl : f.getLast? with
  | none =>
    have : f = [] := by simpa using hl
    subst this
    simp only [List.map_nil, List.isEmpty_nil] at w1' gl1
    simp! only [F_is_run, g_is_run, enR, isIt, gNe_id, c33, w1', w2, w3, List.map_nil, gl1]
    done
  | some x =>
    have a1 := atI_last' hl
    have he : f.isEmpty = false := by
      cases f with
      | nil => cases hl
      | cons _ _ => rfl
    rw [he] at gl1
    have hx : (x == sb s k) = false := by
      rw [hl] at h2
      simpa using h2
    simp! only [F_is_run, g_is_run, enR, isIt, gNe_id, c33, w1', w2, w3, w4, gl1, neg1, a1, gNe_d, hx]
    done
end Law

set_option Elab.async false
set_option linter.all false
set_option maxRecDepth 100000
set_option maxHeartbeats 8000000
namespace Law
open PySem L2 DL
theorem check_run_ok {C : Addr} {r : Run} (hz : r.f.length ≤ szL) (hv : Vd r) : FX_check_run C [enR r] = some (.ok .non) := by
  have h := is_run_ok hz hv
  simp! only [FX_check_run, runX, gX_check_run, sIfX, sOk, h]
theorem check_run_bad {C : Addr} {d : Dv} (h : F_is_run [.dat d] = some (.bl false, [])) : FX_check_run C [d] = some (.error (C, ["value"], [d])) := by
  simp! only [FX_check_run, runX, gX_check_run, sIfX, sOk, sRaise, h]
/-- the value with a number -/
def vo (r : Run) (n : Nat) : Option Int := if h : n < r.f.length then r.f[n] else r.s.map fun s => s + r.k * ((n : Int) - r.f.length)
/-- small numbers -/
def Sm (r : Run) : Prop := r.f.length ≤ 1000 ∧ r.k.natAbs < 2 ^ 400 ∧ ∀ x, r.s = some x → x.natAbs < 2 ^ 400
theorem value_of_ok {r : Run} (hz : Sm r) {n : Nat} (hn : n < 2 ^ 400) : F_value_of [.dat (enR r), .dat (.int n)] = some (en (vo r n), []) := by
  obtain ⟨f, s, k⟩ := r
  obtain ⟨h1, h2, _⟩ := hz
  simp only at h1 h2
  by_cases hl : n < f.length
  · have e : decide ((n : Int) < (f.length : Int)) = true := decide_eq_true (by omega)
    have a1 : atI (f.map en) (n : Int) = some (en (vo ⟨f, s, k⟩ n)) := by
      unfold atI ixN
      rw [if_pos (by omega), List.length_map, if_pos (by omega), Option.bind_some, Int.toNat_natCast, List.getElem?_map, List.getElem?_eq_getElem hl]
      unfold vo
      rw [dif_pos hl]
      rfl
    simp! only [F_value_of, g_value_of, enR, ltI, List.length_map, e, a1]
  · have e : decide ((n : Int) < (f.length : Int)) = false := decide_eq_false (by omega)
    have ev : vo ⟨f, s, k⟩ n = s.map fun s => s + k * ((n : Int) - f.length) := by
      unfold vo
      rw [dif_neg hl]
    have cmu : CMulW k ((n : Int) - f.length) := cm (by
      have : (2 : Nat) ^ 400 < 2 ^ 1000 := Nat.pow_lt_pow_right (by decide) (by decide)
      omega) (by
      have : (2 : Nat) ^ 400 < 2 ^ 1000 := Nat.pow_lt_pow_right (by decide) (by decide)
      omega)
    rw [ev]
    cases s with
    | none => simp! only [F_value_of, g_value_of, enR, en, ltI, List.length_map, e, isNon, Bool.false_xor, Option.map]
    | some s => simp! only [F_value_of, g_value_of, enR, en, ltI, List.length_map, e, isNon, Bool.false_xor, cmu, Option.map]
theorem en_s {x : Int} : en (some x) = .int x := rfl
theorem en_n : en none = .non := rfl
theorem lenE {r : Run} (z : Sm r) : r.f.length ≤ szL := Nat.le_trans z.1 (by decide)
theorem seq_nx {f g : SF} {e e' : DEnv} (h : f e = some (.nx e')) : sSeq f g e = g e' := by
  unfold sSeq
  rw [h]
  rfl
theorem seq_rt {f g : SF} {e e' : DEnv} {d : Dv} (h : f e = some (.rt d e')) : sSeq f g e = some (.rt d e') := by
  unfold sSeq
  rw [h]
  rfl
theorem seqX_nx {f g : SX} {e e' : DEnv} (h : f e = some (.ok (.nx e'))) : sSeqX f g e = g e' := by
  unfold sSeqX
  rw [h]
  rfl
theorem seqX_ex {f g : SX} {e e' : DEnv} {x : Exc} (h : f e = some (.ex x e')) : sSeqX f g e = some (.ex x e') := by
  unfold sSeqX
  rw [h]
  rfl
theorem back_ok (s : Option Int) (k : Int) : F_law_back [.dat (en s), .dat (.int k)] = some (en (sb s k), []) := by
  cases s <;> simp! only [F_law_back, g_law_back, en_s, en_n, sb, isNon, Bool.false_xor, Option.map]
theorem value_ok {r : Run} (hz : Sm r) {n : Nat} (hn : n < 2 ^ 400) : F_law_value [.dat (enR r), .dat (.int n)] = some (en (vo r n), []) := by
  obtain ⟨f, s, k⟩ := r
  obtain ⟨h1, h2, _⟩ := hz
  simp only at h1 h2
  have a0 : atI [Dv.lst (f.map en), en s, .int k] 0 = some (.lst (f.map en)) := rfl
  have a1 : atI [Dv.lst (f.map en), en s, .int k] 1 = some (en s) := rfl
  have a2 : atI [Dv.lst (f.map en), en s, .int k] 2 = some (.int k) := rfl
  by_cases hl : n < f.length
  · have e : decide ((n : Int) < (f.length : Int)) = true := decide_eq_true (by omega)
    have a3 : atI (f.map en) (n : Int) = some (en (vo ⟨f, s, k⟩ n)) := by
      unfold atI ixN
      rw [if_pos (by omega), List.length_map, if_pos (by omega), Option.bind_some, Int.toNat_natCast, List.getElem?_map, List.getElem?_eq_getElem hl]
      unfold vo
      rw [dif_pos hl]
      rfl
    simp! only [F_law_value, g_law_value, enR, ltI, List.length_map, e, a0, a3]
  · have e : decide ((n : Int) < (f.length : Int)) = false := decide_eq_false (by omega)
    have ev : vo ⟨f, s, k⟩ n = s.map fun s => s + k * ((n : Int) - f.length) := by
      unfold vo
      rw [dif_neg hl]
    have cmu : CMulW k ((n : Int) - f.length) := cm (by
      have : (2 : Nat) ^ 400 < 2 ^ 1000 := Nat.pow_lt_pow_right (by decide) (by decide)
      omega) (by
      have : (2 : Nat) ^ 400 < 2 ^ 1000 := Nat.pow_lt_pow_right (by decide) (by decide)
      omega)
    rw [ev]
    cases s with
    | none =>
      simp only [en_n] at a0 a1 a2
      simp! only [F_law_value, g_law_value, enR, en_n, ltI, List.length_map, e, isNon, Bool.false_xor, Option.map, a0, a1, a2]
    | some s =>
      simp only [en_s] at a0 a1 a2
      simp! only [F_law_value, g_law_value, enR, en_s, ltI, List.length_map, e, isNon, Bool.false_xor, cmu, Option.map, a0, a1, a2]
/-- a number that is drawn -/
def Wb (o : Option Int) : Prop := ∀ x, o = some x → x.natAbs ≤ 10 ^ 30
theorem worthD_ok {n : Nat} {xs : List Dv} (g : Good n xs) (hn : n ≤ 2 ^ 29) : ∃ o xs', F_law_worth [.own true xs] = some (en o, xs') ∧ Wb o ∧ Good (n + 20) xs' := by
  obtain ⟨a, x1, d1, b1, b2, g1⟩ := rnd_ok (b := 6) g (by omega) (by decide) (by decide)
  by_cases h0 : a = 0
  · subst h0
    refine ⟨none, x1, ?_, fun x z => (by cases z), g1.mono (by omega)⟩
    simp! only [F_law_worth, g_law_worth, d1, gEq_i (env := [Slot.own true x1, Slot.dat (Dv.int 0)]) (x := .v 1) (y := .d (.int 0)) rfl rfl, (show ((0 : Int) == 0) = true from rfl)]
    rfl
  · have e0 : (a == 0) = false := beq_eq_false_iff_ne.mpr h0
    have q0 := gEq_i (env := [Slot.own true x1, Slot.dat (Dv.int a)]) (x := .v 1) (y := .d (.int 0)) rfl rfl
    rw [e0] at q0
    by_cases h5 : a < 5
    · obtain ⟨c, x2, d2, b3, b4, g2⟩ := rnd_ok (b := 7) g1 (by omega) (by decide) (by decide)
      refine ⟨some (c - 3), x2, ?_, fun x z => ?_, g2.mono (by omega)⟩
      · simp! only [F_law_worth, g_law_worth, d1, q0, ltI, decide_eq_true h5, d2]
        rfl
      · cases z
        have : (7 : Nat) ≤ 10 ^ 30 := by decide
        omega
    · have p2 : CPw 10 29 := by decide +kernel
      have cmu : CMulW 2 100000000000000000000000000000 := cm (by decide) (by decide +kernel)
      have eb : (2 : Int) * 100000000000000000000000000000 = 200000000000000000000000000000 := by decide +kernel
      have eb2 : (10 : Int) ^ (29 : Int).toNat = 100000000000000000000000000000 := by decide +kernel
      obtain ⟨c, x2, d2, b3, b4, g2⟩ := rnd_ok (b := 200000000000000000000000000000) g1 (by omega) (by decide) (by decide +kernel)
      refine ⟨some (c - 100000000000000000000000000000), x2, ?_, fun x z => ?_, g2.mono (by omega)⟩
      · simp! only [F_law_worth, g_law_worth, d1, q0, ltI, decide_eq_false h5, gPow, p2, cmu, eb, eb2, d2]
        rfl
      · cases z
        have : (10 : Nat) ^ 30 = 1000000000000000000000000000000 := by decide
        omega
end Law

set_option Elab.async false
set_option linter.all false
set_option maxRecDepth 100000
set_option maxHeartbeats 8000000
namespace Law
open PySem L2 DL
theorem tl_neg (n : Nat) : TL.tl (Str.ofString (toString (Int.negSucc n))) = 45 :: TL.numL (n + 1) := by
  have e : toString (Int.negSucc n) = "-" ++ toString ((n + 1 : Nat) : Int) := rfl
  have h := TL.tl_num (n + 1)
  rw [Str.ofString_eq_toList] at h
  rw [e, Str.ofString_eq_toList, ← h]
  show (("-" ++ toString ((n + 1 : Nat) : Int)).toList.map Char.toNat) = 45 :: ((toString ((n + 1 : Nat) : Int)).toList.map Char.toNat)
  rw [String.toList_append, List.map_append]
  rfl
theorem tl_inj {a b : Str} (h : TL.tl a = TL.tl b) : a = b := by
  rw [← TL.mk_tl a, ← TL.mk_tl b, h]
theorem int_inj {i j : Int} (h : Str.ofString (toString i) = Str.ofString (toString j)) : i = j := by
  have h := congrArg TL.tl h
  cases i with
  | ofNat m =>
    cases j with
    | ofNat n =>
      rw [show Int.ofNat m = ((m : Nat) : Int) from rfl, show Int.ofNat n = ((n : Nat) : Int) from rfl, TL.tl_num, TL.tl_num] at h
      rw [TL.numL_inj h]
    | negSucc n =>
      rw [show Int.ofNat m = ((m : Nat) : Int) from rfl, TL.tl_num, tl_neg] at h
      have : 45 ∈ TL.numL m := by rw [h]; simp
      exact absurd this (TL.numL_free (.inl (by decide)))
  | negSucc m =>
    cases j with
    | ofNat n =>
      rw [show Int.ofNat n = ((n : Nat) : Int) from rfl, TL.tl_num, tl_neg] at h
      have : 45 ∈ TL.numL n := by rw [← h]; simp
      exact absurd this (TL.numL_free (.inl (by decide)))
    | negSucc n =>
      rw [tl_neg, tl_neg] at h
      have := TL.numL_inj (List.cons.inj h).2
      omega
theorem none_ne {i : Int} : (Str.ofString "None") ≠ Str.ofString (toString i) := fun h => by
  have h := congrArg TL.tl h
  have e : TL.tl (Str.ofString "None") = [78, 111, 110, 101] := by decide +kernel
  rw [e] at h
  cases i with
  | ofNat m =>
    rw [show Int.ofNat m = ((m : Nat) : Int) from rfl, TL.tl_num] at h
    have : 78 ∈ TL.numL m := by rw [← h]; simp
    exact absurd this (TL.numL_free (.inr (by decide)))
  | negSucc m =>
    rw [tl_neg] at h
    have := (List.cons.inj h).1
    omega
/-- the text of such a value -/
def tx (o : Option Int) : Str := (py (en o)).shown
theorem tx_eq (a b : Option Int) : (tx a == tx b) = (a == b) := by
  cases a with
  | none =>
    cases b with
    | none => rfl
    | some j =>
      have : tx none ≠ tx (some j) := none_ne (i := j)
      rw [beq_eq_false_iff_ne.mpr this]
      rfl
  | some i =>
    cases b with
    | none =>
      have : tx (some i) ≠ tx none := fun z => none_ne (i := i) z.symm
      rw [beq_eq_false_iff_ne.mpr this]
      rfl
    | some j =>
      by_cases e : i = j
      · rw [e]
        simp
      · have : tx (some i) ≠ tx (some j) := fun z => e (int_inj z)
        rw [beq_eq_false_iff_ne.mpr this]
        exact (beq_eq_false_iff_ne.mpr fun z => e (Option.some.inj z)).symm
end Law

set_option Elab.async false
set_option linter.all false
set_option maxRecDepth 100000
set_option maxHeartbeats 8000000
namespace Law
open PySem L2 DL
/-- what can be shown, in at most b letters -/
structure Sw (k b : Nat) (d : Dv) : Prop where
  sh : (py d).showable = true
  ok : okd k d
  len : (py d).shown.length ≤ b
theorem Sw.shC {k b : Nat} {d : Dv} (h : Sw k b d) (hk : k ≤ 64) (hb : b ≤ 16000000) : shC d := ⟨h.sh, h.ok.1, Nat.le_trans h.ok.2 hk, Nat.le_trans h.len hb⟩
theorem Sw.mono {k b k' b' : Nat} {d : Dv} (h : Sw k b d) (hk : k ≤ k') (hb : b ≤ b') : Sw k' b' d := ⟨h.sh, h.ok.mono hk, Nat.le_trans h.len hb⟩
theorem lt_log {n : Nat} (h : n < 10 ^ 300) : n.log2 < 1920 := by
  by_cases z : n = 0
  · subst z
    decide
  · refine (Nat.log2_lt z).mpr ?_
    have : (10 : Nat) ^ 300 < 2 ^ 1920 := by decide +kernel
    omega
theorem sw_int {i : Int} (h : i.natAbs < 10 ^ 300) : Sw 0 302 (.int i) := by
  refine ⟨decide_eq_true (lt_log h), okd_int, ?_⟩
  have := int_text_length_le10 (a := i) (k := 300) (by decide) h
  show (Str.ofString (toString i)).length ≤ 302
  rw [ofString_length]
  omega
theorem sw_non : Sw 0 302 .non := by
  refine ⟨rfl, ⟨by decide, by decide⟩, ?_⟩
  show (Str.ofString "None").length ≤ 302
  decide +kernel
theorem sw_en {o : Option Int} (h : ∀ x, o = some x → x.natAbs < 10 ^ 300) : Sw 0 302 (en o) := by
  cases o with
  | none => exact sw_non
  | some x => exact sw_int (h x rfl)
def lens (ts : List Str) : Nat := (ts.map fun t => t.length).sum
theorem shown_all {k b : Nat} : ∀ {xs : List Dv}, (∀ d ∈ xs, Sw k b d) → lens (PyData.shownAll (pys xs)) ≤ b * xs.length ∧ (PyData.shownAll (pys xs)).length = xs.length ∧ PyData.showableAll (pys xs) = true
  | [], _ => by simp [pys, PyData.shownAll, PyData.showableAll, lens]
  | x :: xs, h => by
    obtain ⟨a, c, e⟩ := shown_all fun d hd => h d (List.mem_cons_of_mem _ hd)
    obtain ⟨h1, h2, h3⟩ := h x List.mem_cons_self
    unfold lens at a ⊢
    refine ⟨?_, ?_, ?_⟩
    · simp only [pys, PyData.shownAll, List.map_cons, List.sum_cons, List.length_cons]
      rw [Nat.mul_add]
      omega
    · simp only [pys, PyData.shownAll, List.length_cons, c]
    · simp only [pys, PyData.showableAll, h1, e, Bool.and_true]
theorem sw_lst {k b n : Nat} {xs : List Dv} (h : ∀ d ∈ xs, Sw k b d) (hn : xs.length ≤ n) : Sw (k + 1) ((b + 2) * n + 10) (.lst xs) := by
  obtain ⟨a, c, e⟩ := shown_all h
  have t := listText_len_le (PyData.shownAll (pys xs))
  unfold lens at a
  refine ⟨e, okd_lst fun d hd => (h d hd).ok, ?_⟩
  have m := Nat.mul_le_mul_left (b + 2) hn
  rw [Nat.add_mul] at m
  simp only [py, PyData.shown]
  omega
theorem sw_tup {k b n : Nat} {xs : List Dv} (h : ∀ d ∈ xs, Sw k b d) (hn : xs.length ≤ n) : Sw (k + 1) ((b + 2) * n + 10) (.tup xs) := by
  obtain ⟨a, c, e⟩ := shown_all h
  have t := tupleText_len_le (PyData.shownAll (pys xs))
  unfold lens at a
  refine ⟨e, okd_tup fun d hd => (h d hd).ok, ?_⟩
  have m := Nat.mul_le_mul_left (b + 2) hn
  rw [Nat.add_mul] at m
  simp only [py, PyData.shown]
  omega
end Law

set_option Elab.async false
set_option linter.all false
set_option maxRecDepth 100000
set_option maxHeartbeats 8000000
namespace Law
open PySem L2 DL
def Nb (o : Option Int) : Prop := ∀ x, o = some x → x.natAbs < 2 ^ 150
def Rb (r : Run) : Prop := r.f.length ≤ 20 ∧ r.k.natAbs < 2 ^ 150 ∧ Nb r.s ∧ (∀ o ∈ r.f, Nb o) ∧ (r.s = none → r.k = 0)
theorem p150 : (2 : Nat) ^ 150 < 10 ^ 300 := by decide +kernel
theorem p150b : (2 : Nat) ^ 150 < 2 ^ 400 := Nat.pow_lt_pow_right (by decide) (by decide)
theorem Rb.sm {r : Run} (h : Rb r) : Sm r := ⟨by have := h.1; omega, Nat.lt_trans h.2.1 p150b, fun x z => Nat.lt_trans (h.2.2.1 x z) p150b⟩
theorem Nb.sw {o : Option Int} (h : Nb o) : Sw 0 302 (en o) := sw_en fun x z => Nat.lt_trans (h x z) p150
theorem Rb.sw {r : Run} (h : Rb r) : Sw 2 20000 (enR r) := by
  have a : Sw 1 6090 (.lst (r.f.map en)) := sw_lst (n := 20) (fun d hd => by
    obtain ⟨o, ho, rfl⟩ := List.mem_map.mp hd
    exact (h.2.2.2.1 o ho).sw) (by rw [List.length_map]; exact h.1)
  have b : Sw 1 6090 (en r.s) := h.2.2.1.sw.mono (by decide) (by decide)
  have c : Sw 1 6090 (.int r.k) := (sw_int (Nat.lt_trans h.2.1 p150)).mono (by decide) (by decide)
  refine (sw_tup (k := 1) (b := 6090) (n := 3) (xs := [.lst (r.f.map en), en r.s, .int r.k]) (fun d hd => ?_) (by simp)).mono (by decide) (by decide)
  simp only [List.mem_cons, List.not_mem_nil, or_false] at hd
  rcases hd with rfl | rfl | rfl
  · exact a
  · exact b
  · exact c
theorem gRepr_of {env : DEnv} {x : RV} {d : Dv} {k b : Nat} (h : look env x = some d) (s : Sw k b d) (hk : k ≤ 64) (hb : b ≤ 16000000) : gRepr env x = some (.d (.str (py d).shown)) := by
  unfold gRepr
  rw [h, Option.bind_some, if_pos (s.shC hk hb)]
theorem gRepr_en {env : DEnv} {x : RV} {o : Option Int} (h : look env x = some (en o)) (b : ∀ y, o = some y → y.natAbs < 10 ^ 300) : gRepr env x = some (.d (.str (tx o))) := gRepr_of h (sw_en b) (by decide) (by decide)
/-! ### made least -/
def mst (k : Int) (s : List (Option Int) × Option Int) : List (Option Int) × Option Int := match s.1 with
  | x :: l => if x == sb s.2 k then (l, x) else s
  | [] => s
/-- nothing more goes -/
def Stb (k : Int) (s : List (Option Int) × Option Int) : Prop := s.1.head? ≠ some (sb s.2 k)
theorem mst_stb {k : Int} {s : List (Option Int) × Option Int} (h : Stb k s) : mst k s = s := by
  obtain ⟨l, o⟩ := s
  unfold mst
  cases l with
  | nil => rfl
  | cons x l =>
    have : ¬ x = sb o k := fun z => h (by show some x = _; rw [z])
    dsimp only
    rw [if_neg (by rw [beq_iff_eq]; exact this)]
theorem mst_len {k : Int} {s : List (Option Int) × Option Int} (h : ¬ Stb k s) : (mst k s).1.length + 1 = s.1.length := by
  obtain ⟨l, o⟩ := s
  unfold Stb at h
  cases l with
  | nil => exact absurd (by simp) h
  | cons x l =>
    have : x = sb o k := by
      have := Classical.not_not.mp h
      exact Option.some.inj this
    unfold mst
    dsimp only
    rw [if_pos (by rw [beq_iff_eq]; exact this)]
    rfl
/-- what is kept -/
def Mk (r : Run) (s : List (Option Int) × Option Int) : Prop := s.1.length ≤ 20 ∧ Nb s.2 ∧ (∀ o ∈ s.1, Nb o) ∧ (s.2 = none → r.k = 0)
theorem mst_mk {r : Run} {s : List (Option Int) × Option Int} (h : Mk r s) : Mk r (mst r.k s) := by
  obtain ⟨l, o⟩ := s
  obtain ⟨h1, h2, h3, h4⟩ := h
  unfold mst
  cases l with
  | nil => exact ⟨h1, h2, h3, h4⟩
  | cons x l =>
    dsimp only
    split
    · rename_i e
      have e : x = sb o r.k := beq_iff_eq.mp e
      refine ⟨by simp at h1 ⊢; omega, h3 x List.mem_cons_self, fun o ho => h3 o (List.mem_cons_of_mem _ ho), fun z => ?_⟩
      dsimp only at z
      rw [z] at e
      cases o with
      | none => exact h4 rfl
      | some y => cases e
    · exact ⟨h1, h2, h3, h4⟩
def mls (k : Int) : Nat → List (Option Int) × Option Int → List (Option Int) × Option Int
  | 0, s => s
  | n + 1, s => mls k n (mst k s)
theorem mls_stb {k : Int} : ∀ (n : Nat) (s : List (Option Int) × Option Int), s.1.length ≤ n → Stb k (mls k n s)
  | 0, s, h => by
    have : s.1 = [] := List.length_eq_zero_iff.mp (by omega)
    unfold mls Stb
    rw [this]
    simp
  | n + 1, s, h => by
    unfold mls
    by_cases q : Stb k s
    · rw [mst_stb q]
      have key : ∀ m : Nat, mls k m s = s := by
        intro m
        induction m with
        | zero => rfl
        | succ m ih => unfold mls; rw [mst_stb q, ih]
      rw [key]
      exact q
    · exact mls_stb n _ (by have := mst_len q; omega)
theorem mls_mk {r : Run} : ∀ (n : Nat) {s : List (Option Int) × Option Int}, Mk r s → Mk r (mls r.k n s)
  | 0, _, h => h
  | n + 1, _, h => mls_mk n (mst_mk h)
end Law

set_option Elab.async false
set_option linter.all false
set_option maxRecDepth 100000
set_option maxHeartbeats 8000000
set_option exponentiation.threshold 2000
namespace Law
open PySem L2 DL
noncomputable def rr0  : SF := (sPar 2 3 (fCall 1 (some 0) F_law_worth (fCons (fVar 0) fNil)) (fOp gMinus (fCall 2 (some 0) F_law_random (fCons (fVar 0) (fCons (fC (.int (7 : Int))) fNil))) (fC (.int (3 : Int)))))
noncomputable def rr1  : SF := (sIf (fTest (fOp gEq (fCall 2 (some 0) F_law_random (fCons (fVar 0) (fCons (fC (.int (5 : Int))) fNil))) (fC (.int (0 : Int))))) (sAsg (fOp gMul (fVar 3) (fOp gAdd (fCall 2 (some 0) F_law_random (fCons (fVar 0) (fCons (fOp gPow (fC (.int (10 : Int))) (fC (.int (20 : Int)))) fNil))) (fC (.int (1 : Int))))) (fName 3)) sNext)
noncomputable def rr2  : SF := (sIf (fTest (fOp (gIs false) (fVar 2) (fC .non))) (sAsg (fC (.int (0 : Int))) (fName 3)) sNext)
noncomputable def rr3  : SF := (sParOD 4 5 (lLst fNil) (fLst' (fCons (fVar 2) fNil)))
noncomputable def rr4b  : SF := (sAsg (fOp gAdd (fLst' (fCons (fCall 2 none F_law_back (fCons (fOp gIx (fVar 5) (fC (.int (0 : Int)))) (fCons (fVar 3) fNil))) fNil)) (fVar 5)) (fName 5))
noncomputable def rr4  : SF := (sFor (fRng1 (fCons (fCall 2 (some 0) F_law_random (fCons (fVar 0) (fCons (fC (.int (4 : Int))) fNil))) fNil)) (fName 6) (rr4b ))
noncomputable def rr5b  : SF := (sApp 4 (fCall 1 (some 0) F_law_worth (fCons (fVar 0) fNil)))
noncomputable def rr5  : SF := (sFor (fRng1 (fCons (fCall 2 (some 0) F_law_random (fCons (fVar 0) (fCons (fVar 1) fNil))) fNil)) (fName 6) (rr5b ))
noncomputable def rr6  : SF := (sRet (fTup' (fCons (fOp gAdd (fVar 4) (fSl (fVar 5) fNoPart (fPart (fUn gNeg (fC (.int (1 : Int))))))) (fCons (fVar 2) (fCons (fVar 3) fNil)))))
theorem rr_all  : g_law_raw_run  = (sSeq (rr0 ) (sSeq (rr1 ) (sSeq (rr2 ) (sSeq (rr3 ) (sSeq (rr4 ) (sSeq (rr5 ) (rr6 ))))))) := rfl
def Wc (o : Option Int) : Prop := ∀ x, o = some x → x.natAbs ≤ 10 ^ 31
def Rw (r : Run) : Prop := r.f.length ≤ 8 ∧ r.k.natAbs ≤ 10 ^ 21 ∧ Wc r.s ∧ (∀ o ∈ r.f, Wc o) ∧ (r.s = none → r.k = 0)
theorem Wb.wc {o : Option Int} (h : Wb o) : Wc o := fun x z => Nat.le_trans (h x z) (by decide)
abbrev RE (xs : List Dv) (s k f l t : Slot) : DEnv := [.own true xs, .dat (.int 6), s, k, f, l, t]
theorem rr0_ok {n : Nat} {xs : List Dv} (g : Good n xs) (hn : n ≤ 2 ^ 28) : ∃ o k x', rr0 (RE xs .non .non .non .non .non) = some (.nx (RE x' (.dat (en o)) (.dat (.int k)) .non .non .non)) ∧ Wb o ∧ k.natAbs ≤ 3 ∧ Good (n + 30) x' := by
  obtain ⟨o, x1, d1, b1, g1⟩ := worthD_ok g (by omega)
  obtain ⟨c, x2, d2, b3, b4, g2⟩ := rnd_ok (b := 7) g1 (by omega) (by decide) (by decide)
  refine ⟨o, c - 3, x2, ?_, b1, by omega, g2.mono (by omega)⟩
  simp! only [rr0, d1, d2]
theorem rr1_ok {n : Nat} {xs : List Dv} (g : Good n xs) (hn : n ≤ 2 ^ 28) {s : Slot} {k : Int} (hk : k.natAbs ≤ 3) : ∃ k' x', rr1 (RE xs s (.dat (.int k)) .non .non .non) = some (.nx (RE x' s (.dat (.int k')) .non .non .non)) ∧ k'.natAbs ≤ 10 ^ 21 ∧ Good (n + 20) x' := by
  obtain ⟨a, x1, d1, b1, b2, g1⟩ := rnd_ok (b := 5) g (by omega) (by decide) (by decide)
  by_cases h0 : a = 0
  · subst h0
    have p2 : CPw 10 20 := by decide +kernel
    have eb : (10 : Int) ^ (20 : Int).toNat = 100000000000000000000 := by decide +kernel
    obtain ⟨c, x2, d2, b3, b4, g2⟩ := rnd_ok (b := 100000000000000000000) g1 (by omega) (by decide) (by decide +kernel)
    have cmu : CMulW k (c + 1) := cm (by
      have : (3 : Nat) < 2 ^ 1000 := by decide +kernel
      omega) (by
      have : (100000000000000000001 : Nat) < 2 ^ 1000 := by decide +kernel
      omega)
    refine ⟨k * (c + 1), x2, ?_, ?_, g2.mono (by omega)⟩
    · simp! only [rr1, d1, gEq_id, (show ((0 : Int) == 0) = true from rfl), gPow, p2, eb, d2, cmu]
    · rw [Int.natAbs_mul]
      have m := Nat.mul_le_mul hk (show (c + 1).natAbs ≤ 100000000000000000000 by omega)
      have : 3 * 100000000000000000000 ≤ 10 ^ 21 := by decide
      omega
  · have e0 : (a == 0) = false := beq_eq_false_iff_ne.mpr h0
    refine ⟨k, x1, ?_, by have : (3 : Nat) ≤ 10 ^ 21 := by decide
                          omega, g1.mono (by omega)⟩
    simp! only [rr1, d1, gEq_id, e0]
theorem rr2_ok {xs : List Dv} {o : Option Int} {k : Int} : rr2 (RE xs (.dat (en o)) (.dat (.int k)) .non .non .non) = some (.nx (RE xs (.dat (en o)) (.dat (.int (if o = none then 0 else k))) .non .non .non)) := by
  cases o with
  | none => simp! only [rr2, en_n, isNon, Bool.false_xor]
  | some x => simp! only [rr2, en_s, isNon, Bool.false_xor, reduceCtorEq]
theorem rr3_ok {xs : List Dv} {o : Option Int} {k : Slot} : rr3 (RE xs (.dat (en o)) k .non .non .non) = some (.nx (RE xs (.dat (en o)) k (.own false []) (.dat (.lst [en o])) .non)) := by
  simp! only [rr3, (show (0 ≤ szL) = True by decide), (show (1 ≤ szL) = True by decide)]
theorem atI_hd {x : Dv} {l : List Dv} : atI (x :: l) 0 = some x := by
  unfold atI ixN
  rw [if_pos (by decide), if_pos (by simp)]
  rfl
def cA : Nat := 10 ^ 30
def cB : Nat := 10 ^ 21
/-- a line that leads to its start -/
def Ln (o : Option Int) (k : Int) (i : Nat) (l : List (Option Int)) : Prop := l.length = i + 1 ∧ ∀ x ∈ l, ∀ y, x = some y → y.natAbs ≤ cA + i * cB
theorem rr4_ok {n : Nat} {xs : List Dv} (g : Good n xs) (hn : n ≤ 2 ^ 28) {o : Option Int} {k : Int} (ho : ∀ x, o = some x → x.natAbs ≤ cA) (hk : k.natAbs ≤ cB) : ∃ i l x' t, i ≤ 3 ∧ Ln o k i l ∧ rr4 (RE xs (.dat (en o)) (.dat (.int k)) (.own false []) (.dat (.lst [en o])) .non) = some (.nx (RE x' (.dat (en o)) (.dat (.int k)) (.own false []) (.dat (.lst (l.map en))) t)) ∧ Good (n + 10) x' ∧ ∀ b xs, t ≠ .own b xs := by
  obtain ⟨a, x1, d1, b1, b2, g1⟩ := rnd_ok (b := 4) g (by omega) (by decide) (by decide)
  have hr : rngC a := rng_ok (by omega) (by omega)
  obtain ⟨e', lp, i', l, t, h1, h2, h3⟩ := loop_inv (gf := fName 6) (gb := rr4b) (fun i e => ∃ i' l t, i' = i ∧ (Ln o k i' l ∧ ∀ b xs, t ≠ .own b xs) ∧ e = RE x1 (.dat (en o)) (.dat (.int k)) (.own false []) (.dat (.lst (l.map en))) t) (rangeD 0 a.toNat) (fun i d hd e pe => by
    obtain ⟨i', l, t, rfl, ⟨h1, h2⟩, rfl⟩ := pe
    obtain ⟨rfl, hi⟩ := rangeD_get hd
    obtain ⟨ll, lb⟩ := h1
    cases l with
    | nil => cases ll
    | cons h l =>
      have f : fName 6 (.int (0 + (i' : Int))) (RE x1 (.dat (en o)) (.dat (.int k)) (.own false []) (.dat (.lst ((h :: l).map en))) t) = some (RE x1 (.dat (en o)) (.dat (.int k)) (.own false []) (.dat (.lst ((h :: l).map en))) (.dat (.int (0 + (i' : Int))))) := by
        cases t with
        | own c xs => exact absurd rfl (h2 c xs)
        | _ => rfl
      refine ⟨_, RE x1 (.dat (en o)) (.dat (.int k)) (.own false []) (.dat (.lst ((sb h k :: h :: l).map en))) (.dat (.int (0 + (i' : Int)))), f, .inl ?_, i' + 1, sb h k :: h :: l, _, rfl, ⟨⟨by rw [List.length_cons, ll], fun x hx y hy => ?_⟩, fun _ _ z => (by cases z)⟩, rfl⟩
      · have a0 : atI (en h :: l.map en) 0 = some (en h) := atI_hd
        have bk := back_ok h k
        have es : szL = 16000000 := rfl
        have z1 : (1 + (l.length + 1) ≤ szL) := by simp at ll; omega
        simp! only [rr4b, a0, bk, List.length_map, z1, (show (1 ≤ szL) = True by decide)]
      · rcases List.mem_cons.mp hx with rfl | hx
        · cases h with
          | none => cases hy
          | some z =>
            have e : z - k = y := Option.some.inj hy
            have := lb (some z) List.mem_cons_self z rfl
            have e2 : (i' + 1) * cB = i' * cB + cB := Nat.succ_mul _ _
            omega
        · have := lb x hx y hy
          have e2 : (i' + 1) * cB = i' * cB + cB := Nat.succ_mul _ _
          omega) (RE x1 (.dat (en o)) (.dat (.int k)) (.own false []) (.dat (.lst [en o])) .non) ⟨0, [o], .non, rfl, ⟨⟨rfl, fun x hx y hy => by
      rw [List.mem_singleton] at hx
      subst hx
      exact Nat.le_trans (ho y hy) (Nat.le_add_right _ _)⟩, fun _ _ z => (by cases z)⟩, rfl⟩
  rw [rangeD_len] at h1
  refine ⟨i', l, x1, t, by omega, h2.1, ?_, g1, h2.2⟩
  rw [h3] at lp
  simp! only [rr4, -e_loop1, d1, hr, lp]
theorem rr5_ok {n : Nat} {xs : List Dv} (g : Good n xs) (hn : n ≤ 2 ^ 28) {s k l t : Slot} (ht : ∀ b xs, t ≠ .own b xs) : ∃ (f : List (Option Int)) (x' : List Dv) (t' : Slot), f.length ≤ 5 ∧ (∀ o ∈ f, Wb o) ∧ rr5 (RE xs s k (.own false []) l t) = some (.nx (RE x' s k (.own false (f.map en)) l t')) ∧ Good (n + 120) x' := by
  obtain ⟨a, x1, d1, b1, b2, g1⟩ := rnd_ok (b := 6) g (by omega) (by decide) (by decide)
  have hr : rngC a := rng_ok (by omega) (by omega)
  obtain ⟨e', lp, q⟩ := loop_inv (gf := fName 6) (gb := rr5b) (fun i e => i ≤ 5 → ∃ (i' : Nat) (f : List (Option Int)) (x2 : List Dv) (t : Slot), i' = i ∧ ((f.length = i' ∧ (∀ o ∈ f, Wb o) ∧ Good (n + 10 + 20 * i') x2) ∧ ∀ b xs, t ≠ .own b xs) ∧ e = RE x2 s k (.own false (f.map en)) l t) (rangeD 0 a.toNat) (fun i d hd e pe => by
    obtain ⟨rfl, hi⟩ := rangeD_get hd
    obtain ⟨i', f, x2, t, rfl, ⟨⟨h1, h2, h3⟩, h4⟩, rfl⟩ := pe (by omega)
    obtain ⟨o, x3, d3, b3, g3⟩ := worthD_ok h3 (by omega)
    have fn : fName 6 (.int (0 + (i' : Int))) (RE x2 s k (.own false (f.map en)) l t) = some (RE x2 s k (.own false (f.map en)) l (.dat (.int (0 + (i' : Int))))) := by
      cases t with
      | own c xs => exact absurd rfl (h4 c xs)
      | _ => rfl
    refine ⟨_, RE x3 s k (.own false ((f ++ [o]).map en)) l (.dat (.int (0 + (i' : Int)))), fn, .inl ?_, fun _ => ⟨i' + 1, f ++ [o], x3, _, rfl, ⟨⟨by rw [List.length_append, h1]; rfl, fun x hx => ?_, g3.mono (by omega)⟩, fun _ _ z => (by cases z)⟩, rfl⟩⟩
    · have es : szL = 16000000 := rfl
      have z1 : (f.length < szL) := by omega
      simp! only [rr5b, d3, List.length_map, z1, List.map_append]
    · rcases List.mem_append.mp hx with hx | hx
      · exact h2 x hx
      · rw [List.mem_singleton] at hx
        rw [hx]
        exact b3) (RE x1 s k (.own false []) l t) (fun _ => ⟨0, [], x1, t, rfl, ⟨⟨rfl, (fun _ z => (by cases z)), g1.mono (by omega)⟩, ht⟩, rfl⟩)
  rw [rangeD_len] at q
  obtain ⟨i', f, x2, t', h1, h2, h3⟩ := q (by omega)
  obtain ⟨⟨h4, h5, h6⟩, h7⟩ := h2
  refine ⟨f, x2, t', by omega, h5, ?_, h6.mono (by omega)⟩
  rw [h3] at lp
  simp! only [rr5, -e_loop1, d1, hr, lp]
theorem cut_last {l : List (Option Int)} : cut (l.map en) none (some (-1)) = l.dropLast.map en := by
  have e : HT.sIx l.length l.length (some (-1)) = l.length - 1 := by
    show (if (-1 : Int) < 0 then ((-1 : Int) + (l.length : Int)).toNat else min (-1 : Int).toNat l.length) = _
    rw [if_pos (by decide)]
    omega
  rw [cut_map]
  unfold cut
  rw [HT.sIx_none, List.drop_zero, Nat.sub_zero, e, List.dropLast_eq_take]
theorem rr6_ok {xs : List Dv} {o : Option Int} {k : Int} {f l : List (Option Int)} {t : Slot} (hf : f.length ≤ 5) (hl : l.length ≤ 4) : rr6 (RE xs (.dat (en o)) (.dat (.int k)) (.own false (f.map en)) (.dat (.lst (l.map en))) t) = some (.rt (enR ⟨f ++ l.dropLast, o, k⟩) (RE xs (.dat (en o)) (.dat (.int k)) (.own false (f.map en)) (.dat (.lst (l.map en))) t)) := by
  have es : szL = 16000000 := rfl
  have z1 : (f.length + (l.length - 1) ≤ szL) := by omega
  have c := cut_last (l := l)
  simp! only [rr6, enR, neg1, c, List.length_map, List.length_dropLast, z1, List.map_append, (show (3 ≤ szL) = True by decide)]
theorem raw_run_ok {n : Nat} {xs : List Dv} (g : Good n xs) (hn : n ≤ 2 ^ 27) : ∃ r xs', F_law_raw_run [.own true xs, .dat (.int 6)] = some (enR r, xs') ∧ Rw r ∧ Good (n + 220) xs' := by
  obtain ⟨o, k0, x0, e0, b0, c0, g0⟩ := rr0_ok g (by omega)
  obtain ⟨k1, x1, e1, b1, g1⟩ := rr1_ok g0 (by omega) (s := .dat (en o)) c0
  have hk : (if o = none then 0 else k1).natAbs ≤ 10 ^ 21 := by
    split
    · decide
    · exact b1
  obtain ⟨i, l, x4, t4, hi, hl, e4, g4, ht⟩ := rr4_ok g1 (by omega) (o := o) b0 hk
  obtain ⟨f, x5, t5, hf, wf, e5, g5⟩ := rr5_ok g4 (by omega) (s := .dat (en o)) (k := .dat (.int (if o = none then 0 else k1))) (l := .dat (.lst (l.map en))) ht
  refine ⟨⟨f ++ l.dropLast, o, if o = none then 0 else k1⟩, x5, ?_, ⟨?_, hk, b0.wc, fun x hx => ?_, fun z => by dsimp only at z ⊢; rw [if_pos z]⟩, g5.mono (by omega)⟩
  · have e6 := rr6_ok (xs := x5) (o := o) (k := if o = none then 0 else k1) (f := f) (l := l) (t := t5) hf (by rw [hl.1]; omega)
    have st : ([Slot.own true xs, .dat (.int 6)] ++ List.replicate (7 - [Slot.own true xs, .dat (.int 6)].length) Slot.non) = RE xs .non .non .non .non .non := rfl
    unfold F_law_raw_run runDef
    rw [st, rr_all, seq_nx e0, seq_nx e1, seq_nx rr2_ok, seq_nx rr3_ok, seq_nx e4, seq_nx e5, e6]
    rfl
  · rw [List.length_append, List.length_dropLast, hl.1]
    omega
  · rcases List.mem_append.mp hx with hx | hx
    · exact (wf x hx).wc
    · intro y hy
      have := hl.2 x ((List.dropLast_sublist l).mem hx) y hy
      have e2 : i * cB ≤ 3 * cB := Nat.mul_le_mul_right _ hi
      have : cA + 3 * cB ≤ 10 ^ 31 := by decide +kernel
      omega
end Law

set_option Elab.async false
set_option linter.all false
set_option maxRecDepth 100000
set_option maxHeartbeats 8000000
set_option exponentiation.threshold 2000
namespace Law
open PySem L2 DL
/-- what goes at the end of a reversed list -/
def mw (k : Int) : List (Option Int) → Option Int → List (Option Int) × Option Int
  | [], o => ([], o)
  | x :: l, o => if x == sb o k then mw k l x else (x :: l, o)
def lr (r : Run) : Run := ⟨(mw r.k r.f.reverse r.s).1.reverse, (mw r.k r.f.reverse r.s).2, r.k⟩
noncomputable def wht : TF := (fAnd (fTest (fOp gGt (fVar 3) (fC (.int (0 : Int))))) (fTest (fOp gEq (fOp gIx (fVar 0) (fOp gMinus (fVar 3) (fC (.int (1 : Int))))) (fCall 2 none F_step_back (fCons (fVar 1) (fCons (fVar 2) fNil))))))
noncomputable def whb : SF := (sSeq (sAsg (fOp gMinus (fVar 3) (fC (.int (1 : Int)))) (fName 3))
    (sAsg (fOp gIx (fVar 0) (fVar 3)) (fName 1)))
abbrev shE (f : List (Option Int)) (k : Int) (l : List (Option Int)) (o : Option Int) : DEnv := [.dat (.lst (f.map en)), .dat (en o), .dat (.int k), .dat (.int l.length)]
theorem at_rev {x : Option Int} {l t : List (Option Int)} : atI (((x :: l).reverse ++ t).map en) (l.length : Int) = some (en x) := by
  unfold atI ixN
  rw [if_pos (by omega), List.length_map, if_pos (by simp; omega), Option.bind_some, Int.toNat_natCast, List.getElem?_map]
  have : ((x :: l).reverse ++ t)[l.length]? = some x := by
    rw [List.reverse_cons, List.append_assoc, List.getElem?_append_right (by simp), List.length_reverse, Nat.sub_self]
    rfl
  rw [this]
  rfl
theorem wht_nil {f : List (Option Int)} {k : Int} {o : Option Int} : wht (shE f k [] o) = some (false, shE f k [] o) := by
  simp! only [wht, gtI, List.length_nil, (show decide (((0 : Nat) : Int) > 0) = false from rfl)]
theorem wht_cons {x : Option Int} {l t : List (Option Int)} {k : Int} {o : Option Int} : wht (shE ((x :: l).reverse ++ t) k (x :: l) o) = some (x == sb o k, shE ((x :: l).reverse ++ t) k (x :: l) o) := by
  have e : decide ((0 : Int) < ((l.length + 1 : Nat) : Int)) = true := decide_eq_true (by omega)
  have e2 : (((l.length + 1 : Nat) : Int) - 1) = (l.length : Int) := by omega
  have a := at_rev (x := x) (l := l) (t := t)
  have b := step_back_ok o k
  simp! only [wht, shE, gtI, List.length_cons, e, e2, a, b, gEq_d]
theorem whb_ok {x : Option Int} {l t : List (Option Int)} {k : Int} {o : Option Int} : whb (shE ((x :: l).reverse ++ t) k (x :: l) o) = some (.nx (shE (l.reverse ++ x :: t) k l x)) := by
  have e2 : (((l.length + 1 : Nat) : Int) - 1) = (l.length : Int) := by omega
  have a := at_rev (x := x) (l := l) (t := t)
  have e3 : (x :: l).reverse ++ t = l.reverse ++ x :: t := by simp
  rw [e3] at a ⊢
  simp! only [whb, shE, List.length_cons, e2, a]
theorem whl : ∀ (l t : List (Option Int)) (k : Int) (o : Option Int), ∃ n, whileF wht whb n (shE (l.reverse ++ t) k l o) = some (.nx (shE (l.reverse ++ t) k (mw k l o).1 (mw k l o).2))
  | [], t, k, o => ⟨1, by
    unfold whileF
    rw [wht_nil]
    rfl⟩
  | x :: l, t, k, o => by
    cases q : x == sb o k with
    | true =>
      obtain ⟨n, ih⟩ := whl l (x :: t) k x
      refine ⟨n + 1, ?_⟩
      unfold whileF
      have m : mw k (x :: l) o = mw k l x := by
        show (if _ then _ else _) = _
        rw [if_pos q]
      have e3 : (x :: l).reverse ++ t = l.reverse ++ x :: t := by simp
      rw [m]
      have w := wht_cons (x := x) (l := l) (t := t) (k := k) (o := o)
      have b := whb_ok (x := x) (l := l) (t := t) (k := k) (o := o)
      rw [e3] at w b ⊢
      rw [w, Option.bind_some]
      dsimp only
      rw [if_pos q, b, Option.bind_some]
      dsimp only
      rw [ih]
    | false =>
      refine ⟨1, ?_⟩
      unfold whileF
      have m : mw k (x :: l) o = (x :: l, o) := by
        show (if _ then _ else _) = _
        rw [q]
        rfl
      rw [wht_cons, Option.bind_some, q, m]
      rfl
theorem wh_ok (r : Run) : sWhile wht whb (shE r.f r.k r.f.reverse r.s) = some (.nx (shE r.f r.k (mw r.k r.f.reverse r.s).1 (mw r.k r.f.reverse r.s).2)) := by
  obtain ⟨n, h⟩ := whl r.f.reverse [] r.k r.s
  rw [List.reverse_reverse, List.append_nil] at h
  exact sWhile_eq h
theorem mw_pre (k : Int) : ∀ (l : List (Option Int)) (o : Option Int), (mw k l o).1.reverse = l.reverse.take (mw k l o).1.length
  | [], o => rfl
  | x :: l, o => by
    unfold mw
    split
    · have ih := mw_pre k l x
      have hl : (mw k l x).1.length ≤ l.length := by
        have := congrArg List.length ih
        simp at this
        omega
      rw [List.reverse_cons, List.take_append_of_le_length (by simpa using hl)]
      exact ih
    · rw [List.take_of_length_le (by simp)]
theorem mw_len (k : Int) (l : List (Option Int)) (o : Option Int) : (mw k l o).1.length ≤ l.length := by
  have := congrArg List.length (mw_pre k l o)
  simp at this
  omega
theorem cut_pre {l : List (Option Int)} {n : Nat} (h : n ≤ l.length) : cut (l.map en) none (some (n : Int)) = (l.take n).map en := by
  have e : HT.sIx l.length l.length (some (n : Int)) = n := by
    show (if (n : Int) < 0 then ((n : Int) + (l.length : Int)).toNat else min (n : Int).toNat l.length) = _
    rw [if_neg (by omega)]
    omega
  rw [cut_map]
  unfold cut
  rw [HT.sIx_none, List.drop_zero, Nat.sub_zero, e]
theorem sh_cut (r : Run) : cut (r.f.map en) none (some ((mw r.k r.f.reverse r.s).1.length : Int)) = (lr r).f.map en := by
  have h1 := mw_len r.k r.f.reverse r.s
  rw [cut_pre (by simpa using h1)]
  have h2 := mw_pre r.k r.f.reverse r.s
  rw [List.reverse_reverse] at h2
  unfold lr
  rw [h2]
theorem lr_len (r : Run) : (lr r).f.length ≤ r.f.length := by
  have h1 := mw_len r.k r.f.reverse r.s
  unfold lr
  simpa using h1
theorem sh_ok {r : Run} (hz : r.f.length ≤ 1000) : F_shortened [.dat (.lst (r.f.map en)), .dat (en r.s), .dat (.int r.k)] = some (enR (lr r), []) := by
  have w := wh_ok r
  have c := sh_cut r
  have l0 := lr_len r
  have es : szL = 16000000 := rfl
  have z1 : ((lr r).f.length ≤ szL) := by omega
  simp only [shE, wht, whb, List.length_reverse] at w
  have e1 : sAsg (fCB (g1 gLen) (fCons (fVar 0) fNil)) (fName 3) [.dat (.lst (r.f.map en)), .dat (en r.s), .dat (.int r.k), .non] = some (.nx [.dat (.lst (r.f.map en)), .dat (en r.s), .dat (.int r.k), .dat (.int r.f.length)]) := by
    simp! only [List.length_map]
  have st : ([Slot.dat (.lst (r.f.map en)), .dat (en r.s), .dat (.int r.k)] ++ List.replicate (4 - [Slot.dat (.lst (r.f.map en)), .dat (en r.s), .dat (.int r.k)].length) Slot.non) = [.dat (.lst (r.f.map en)), .dat (en r.s), .dat (.int r.k), .non] := rfl
  have e3 : (sRet (fTup' (fCons (fSl (fVar 0) fNoPart (fPart (fVar 3))) (fCons (fVar 1) (fCons (fVar 2) fNil))))) (shE r.f r.k (mw r.k r.f.reverse r.s).1 (mw r.k r.f.reverse r.s).2) = some (.rt (enR (lr r)) (shE r.f r.k (mw r.k r.f.reverse r.s).1 (mw r.k r.f.reverse r.s).2)) := by
    simp! only [shE, c, (show (3 ≤ szL) = True by decide)]
    rfl
  simp only [shE] at e3
  unfold F_shortened runDef g_shortened
  rw [st, seq_nx e1, seq_nx w, e3]
  rfl
theorem imm_en {l : List (Option Int)} : (l.map en).all immB = true := by
  rw [List.all_eq_true]
  intro d hd
  obtain ⟨o, _, rfl⟩ := List.mem_map.mp hd
  cases o <;> rfl
theorem then_nx {g : SF} {f : DEnv → Option (List Dv × List Dv)} {e e' : DEnv} (h : g e = some (.nx e')) : fThenT g f e = f e' := by
  unfold fThenT
  rw [h]
  rfl
theorem shT_ok {r : Run} (hz : r.f.length ≤ 1000) : FT_shortened [.lst (r.f.map en), en r.s, .int r.k] = some ((lr r).f.map en, [en (lr r).s, .int r.k]) := by
  have w := wh_ok r
  have c := sh_cut r
  simp only [shE, wht, whb, List.length_reverse] at w
  have e1 : sAsg (fCB (g1 gLen) (fCons (fVar 0) fNil)) (fName 3) [.dat (.lst (r.f.map en)), .dat (en r.s), .dat (.int r.k), .non] = some (.nx [.dat (.lst (r.f.map en)), .dat (en r.s), .dat (.int r.k), .dat (.int r.f.length)]) := by
    simp! only [List.length_map]
  have st : ([Dv.lst (r.f.map en), en r.s, .int r.k].map Slot.dat ++ List.replicate (4 - [Dv.lst (r.f.map en), en r.s, .int r.k].length) Slot.non) = [.dat (.lst (r.f.map en)), .dat (en r.s), .dat (.int r.k), .non] := rfl
  unfold FT_shortened runT gT_shortened
  rw [st, then_nx e1, then_nx w]
  have i1 := imm_en (l := (lr r).f)
  have i2 : [en (lr r).s, Dv.int r.k].all immB = true := by
    cases (lr r).s <;> rfl
  have i2' : [en (mw r.k r.f.reverse r.s).2, Dv.int r.k].all immB = true := i2
  simp! only [fTupT, e_lSl, c, frzs, frz, i1, i2', List.length_cons, List.length_nil, (show (0 + 1 + 1 < szL) = True by decide), and_self]
  rfl
end Law

set_option Elab.async false
set_option linter.all false
set_option maxRecDepth 100000
set_option maxHeartbeats 8000000
set_option exponentiation.threshold 2000
namespace Law
open PySem L2 DL
/-! ### the plain law -/
theorem mw_stb (k : Int) : ∀ (l : List (Option Int)) (o : Option Int), (mw k l o).1.head? ≠ some (sb (mw k l o).2 k)
  | [], o => by simp [mw]
  | x :: l, o => by
    cases q : x == sb o k with
    | true =>
      have m : mw k (x :: l) o = mw k l x := by
        show (if _ then _ else _) = _
        rw [if_pos q]
      rw [m]
      exact mw_stb k l x
    | false =>
      have m : mw k (x :: l) o = (x :: l, o) := by
        show (if _ then _ else _) = _
        rw [q]
        rfl
      rw [m]
      intro z
      have z : x = sb o k := Option.some.inj z
      rw [z] at q
      simp at q
theorem mw_none (k : Int) : ∀ (l : List (Option Int)) (o : Option Int), (mw k l o).2 = none → o = none
  | [], o, h => h
  | x :: l, o, h => by
    cases q : x == sb o k with
    | true =>
      have m : mw k (x :: l) o = mw k l x := by
        show (if _ then _ else _) = _
        rw [if_pos q]
      rw [m] at h
      have := mw_none k l x h
      subst this
      cases o with
      | none => rfl
      | some y => exact absurd q (by simp [sb])
    | false =>
      have m : mw k (x :: l) o = (x :: l, o) := by
        show (if _ then _ else _) = _
        rw [q]
        rfl
      rw [m] at h
      exact h
/-- a run whose slope is whole -/
def Sl (r : Run) : Prop := r.s = none → r.k = 0
theorem lr_sl {r : Run} (h : Sl r) : Sl (lr r) := fun z => h (mw_none _ _ _ z)
theorem lr_vd {r : Run} (h : Sl r) : Vd (lr r) := ⟨lr_sl h, by
  have := mw_stb r.k r.f.reverse r.s
  unfold lr
  rw [List.getLast?_reverse]
  exact this⟩
theorem mw_mem (k : Int) {P : Option Int → Prop} : ∀ (l : List (Option Int)) (o : Option Int), (∀ x ∈ l, P x) → P o → P (mw k l o).2 ∧ ∀ x ∈ (mw k l o).1, P x
  | [], o, _, h => ⟨h, by simp [mw]⟩
  | x :: l, o, h1, h2 => by
    cases q : x == sb o k with
    | true =>
      have m : mw k (x :: l) o = mw k l x := by
        show (if _ then _ else _) = _
        rw [if_pos q]
      rw [m]
      exact mw_mem k l x (fun y hy => h1 y (List.mem_cons_of_mem _ hy)) (h1 x List.mem_cons_self)
    | false =>
      have m : mw k (x :: l) o = (x :: l, o) := by
        show (if _ then _ else _) = _
        rw [q]
        rfl
      rw [m]
      exact ⟨h2, h1⟩
theorem lr_rb {r : Run} (h : Rb r) : Rb (lr r) := by
  obtain ⟨h1, h2, h3, h4, h5⟩ := h
  have m := mw_mem r.k (P := Nb) r.f.reverse r.s (fun x hx => h4 x (List.mem_reverse.mp hx)) h3
  exact ⟨Nat.le_trans (lr_len r) h1, h2, m.1, fun o ho => m.2 o (List.mem_reverse.mp ho), lr_sl h5⟩
theorem vo_at {r : Run} {n : Nat} {x : Option Int} (h : r.f[n]? = some x) : vo r n = x := by
  obtain ⟨h1, h2⟩ := List.getElem?_eq_some_iff.mp h
  unfold vo
  rw [dif_pos h1, h2]
theorem vo_end {r : Run} {n : Nat} (h : r.f.length ≤ n) : vo r n = r.s.map fun s => s + r.k * ((n : Int) - r.f.length) := by
  unfold vo
  rw [dif_neg (by omega)]
/-- one step -/
theorem vo_step {f : List (Option Int)} {x o : Option Int} {k : Int} (hx : x = sb o k) (n : Nat) : vo ⟨f ++ [x], o, k⟩ n = vo ⟨f, x, k⟩ n := by
  by_cases h : n < f.length
  · have e : f[n]? = some f[n] := List.getElem?_eq_getElem h
    rw [vo_at (r := ⟨f ++ [x], o, k⟩) (x := f[n]) (by rw [List.getElem?_append_left h]; exact e), vo_at (r := ⟨f, x, k⟩) e]
  · by_cases q : n = f.length
    · subst q
      rw [vo_at (r := ⟨f ++ [x], o, k⟩) (x := x) (by rw [List.getElem?_append_right (Nat.le_refl _), Nat.sub_self]; rfl), vo_end (r := ⟨f, x, k⟩) (Nat.le_refl _)]
      cases x with
      | none => rfl
      | some y => simp
    · rw [vo_end (r := ⟨f ++ [x], o, k⟩) (by simp; omega), vo_end (r := ⟨f, x, k⟩) (by show f.length ≤ n; omega)]
      subst hx
      cases o with
      | none => rfl
      | some y =>
        simp only [sb, Option.map, List.length_append, List.length_singleton]
        congr 1
        rw [Int.natCast_add]
        show y + k * ((n : Int) - ((f.length : Int) + 1)) = y - k + k * ((n : Int) - f.length)
        rw [← Int.sub_sub, Int.mul_sub k _ 1, Int.mul_one]
        omega
theorem mw_vo (k : Int) (n : Nat) : ∀ (l : List (Option Int)) (o : Option Int), vo ⟨(mw k l o).1.reverse, (mw k l o).2, k⟩ n = vo ⟨l.reverse, o, k⟩ n
  | [], o => rfl
  | x :: l, o => by
    cases q : x == sb o k with
    | true =>
      have m : mw k (x :: l) o = mw k l x := by
        show (if _ then _ else _) = _
        rw [if_pos q]
      rw [m, mw_vo k n l x, List.reverse_cons, vo_step (beq_iff_eq.mp q)]
    | false =>
      have m : mw k (x :: l) o = (x :: l, o) := by
        show (if _ then _ else _) = _
        rw [q]
        rfl
      rw [m]
theorem lr_vo (r : Run) (n : Nat) : vo (lr r) n = vo r n := by
  have := mw_vo r.k n r.f.reverse r.s
  rw [List.reverse_reverse] at this
  exact this
/-- written on -/
def on (r : Run) : Nat → Run
  | 0 => r
  | n + 1 => ⟨(on r n).f ++ [(on r n).s], (on r n).s.map (· + r.k), r.k⟩
theorem on_k (r : Run) : ∀ n, (on r n).k = r.k
  | 0 => rfl
  | _ + 1 => rfl
theorem sb_on (o : Option Int) (k : Int) : sb (o.map (· + k)) k = o := by
  cases o with
  | none => rfl
  | some x => simp [sb]
theorem on_lr (r : Run) : ∀ n, lr (on r n) = lr r
  | 0 => rfl
  | n + 1 => by
    have ih := on_lr r n
    have q : ((on r n).s == sb ((on r n).s.map (· + r.k)) r.k) = true := by rw [sb_on]; simp
    have m : mw r.k ((on r n).s :: (on r n).f.reverse) ((on r n).s.map (· + r.k)) = mw r.k (on r n).f.reverse (on r n).s := by
      show (if _ then _ else _) = _
      rw [if_pos q]
    rw [← ih]
    unfold lr
    rw [on_k r n]
    show Run.mk (mw r.k ((on r n).f ++ [(on r n).s]).reverse ((on r n).s.map (· + r.k))).1.reverse (mw r.k ((on r n).f ++ [(on r n).s]).reverse ((on r n).s.map (· + r.k))).2 r.k = _
    rw [List.reverse_append, List.reverse_singleton, List.singleton_append, m]
theorem on_f (r : Run) : ∀ n, (on r n).f = (List.range (r.f.length + n)).map (vo r) ∧ (on r n).s = vo r (r.f.length + n)
  | 0 => by
    refine ⟨?_, ?_⟩
    · refine List.ext_getElem (by simp [on]) fun i h1 h2 => ?_
      have h1 : i < r.f.length := h1
      rw [List.getElem_map, List.getElem_range]
      exact (vo_at (List.getElem?_eq_getElem h1)).symm
    · rw [vo_end (Nat.le_add_right _ _)]
      show r.s = _
      cases r.s with
      | none => rfl
      | some x => simp
  | n + 1 => by
    obtain ⟨h1, h2⟩ := on_f r n
    refine ⟨?_, ?_⟩
    · show (on r n).f ++ [(on r n).s] = _
      rw [h1, h2, ← Nat.add_assoc, List.range_succ, List.map_append]
      rfl
    · show (on r n).s.map (· + r.k) = _
      rw [h2, vo_end (Nat.le_add_right _ _), vo_end (Nat.le_add_right _ _)]
      cases r.s with
      | none => rfl
      | some x =>
        simp only [Option.map]
        congr 1
        have e1 : (((r.f.length + n : Nat) : Int) - r.f.length) = n := by omega
        have e2 : (((r.f.length + (n + 1) : Nat) : Int) - r.f.length) = n + 1 := by omega
        rw [e1, e2, Int.mul_add, Int.mul_one, Int.add_assoc]
/-- the second road: the first numbers written out -/
theorem on_eq (r : Run) (n : Nat) : lr ⟨(List.range (r.f.length + n)).map (vo r), vo r (r.f.length + n), r.k⟩ = lr r := by
  rw [← on_lr r n]
  obtain ⟨h1, h2⟩ := on_f r n
  rw [← h1, ← h2, ← on_k r n]
def vdB (r : Run) : Bool := !(r.f.getLast? == some (sb r.s r.k))
theorem vd_B {r : Run} (h : Vd r) : vdB r = true := by
  unfold vdB
  rw [beq_eq_false_iff_ne.mpr h.2]
  rfl
end Law

set_option Elab.async false
set_option linter.all false
set_option maxRecDepth 100000
set_option maxHeartbeats 8000000
set_option exponentiation.threshold 2000
namespace Law
open PySem L2 DL
theorem sl_slope {s : Option Int} {k : Int} (h : s = none → k = 0) : (s.isSome || k == 0) = true := by
  cases s with
  | none => rw [h rfl]; rfl
  | some _ => rfl
theorem run_b {r : Run} (hz : r.f.length ≤ szL) (h1 : Sl r) : F_is_run [.dat (enR r)] = some (.bl (vdB r), []) := by
  obtain ⟨f, s, k⟩ := r
  have w1 := worthsR_ok hz
  have w2 := worth_ok (pl_en s)
  have w3 := slope_ok s k
  have w4 := step_back_ok s k
  rw [en_wo] at w2
  rw [sl_slope h1] at w3
  simp only at w1
  have gl : ∀ {env : DEnv} {x : RV} {l : List (Option Int)}, look env x = some (.lst (l.map en)) → gEq env x (.d (.lst [])) = some (.d (.bl l.isEmpty)) := fun {env x l} h => by
    unfold gEq
    rw [h]
    simp only [look, eqC_enl, eqv_nil, List.isEmpty_map, if_true]
  have gl1 : gEq [.dat (.tup [.lst (f.map en), en s, .int k]), .dat (.lst (f.map en)), .dat (en s), .dat (.int k)] (.v 1) (.d (.lst [])) = some (.d (.bl f.isEmpty)) := gl rfl
  have w1' : F_are_worths [.dat (.lst (f.map en))] = some (.bl true, []) := w1
  cases hl : f.getLast? with
  | none =>
    have : f = [] := by simpa using hl
    subst this
    simp only [List.map_nil, List.isEmpty_nil] at w1' gl1
    have v : vdB ⟨[], s, k⟩ = true := rfl
    rw [v]
    simp! only [F_is_run, g_is_run, enR, isIt, gNe_id, c33, w1', w2, w3, List.map_nil, gl1]
    done
  | some x =>
    have a1 := atI_last' hl
    have he : f.isEmpty = false := by
      cases f with
      | nil => cases hl
      | cons _ _ => rfl
    rw [he] at gl1
    have v : vdB ⟨f, s, k⟩ = !(x == sb s k) := by
      show (!(f.getLast? == some (sb s k))) = _
      rw [hl]
      rfl
    rw [v]
    simp! only [F_is_run, g_is_run, enR, isIt, gNe_id, c33, w1', w2, w3, w4, gl1, neg1, a1, gNe_d]
    done
theorem check_b {C : Addr} {r : Run} (hz : r.f.length ≤ szL) (hv : Vd r) : FX_check_run C [enR r] = some (.ok .non) := check_run_ok hz hv
theorem between_ok {n : Nat} : F_is_between [.dat (.int n), .dat (.int 0), .dat .non] = some (.bl true, []) := by
  have w := whole_ok (d := .int n) rfl
  have e : decide ((0 : Int) ≤ (n : Int)) = true := decide_eq_true (by omega)
  simp! only [F_is_between, g_is_between, w, isW, leI, e, isNon, Bool.false_xor]
theorem check_number_ok {C : Addr} {n : Nat} : FX_check_number C [.int n, .int 0, .non] = some (.ok .non) := by
  have h := between_ok (n := n)
  simp! only [FX_check_number, runX, gX_check_number, sIfX, sOk, h]
theorem run_value_ok {C C' : Addr} {r : Run} (hz : Sm r) (hv : Vd r) {n : Nat} (hn : n < 2 ^ 400) : F_run_value C C' [.dat (enR r), .dat (.int n)] = some (en (vo r n), []) := by
  have h1 := check_run_ok (C := C') (lenE hz) hv
  have h2 := check_number_ok (C := C) (n := n)
  have h3 := value_of_ok hz hn
  have x : FX_run_value C C' [enR r, .int n] = some (.ok (en (vo r n))) := by
    have a1 : sDropX (fCallX 1 (FX_check_run C') (fCons (fVar 0) fNil)) [.dat (enR r), .dat (.int n)] = some (.ok (.nx [.dat (enR r), .dat (.int n)])) := by
      simp! only [sDropX, fCallX, h1]
    have a2 : sDropX (fCallX 3 (FX_check_number C) (fCons (fVar 1) (fCons (fC (.int (0 : Int))) (fCons (fC .non) fNil)))) [.dat (enR r), .dat (.int n)] = some (.ok (.nx [.dat (enR r), .dat (.int n)])) := by
      simp! only [sDropX, fCallX, h2]
    have st : ([enR r, Dv.int n].map Slot.dat ++ List.replicate (2 - [enR r, Dv.int n].length) Slot.non) = [.dat (enR r), .dat (.int n)] := rfl
    unfold FX_run_value runX gX_run_value
    rw [st, seqX_nx a1, seqX_nx a2]
    simp! only [sOk, h3]
  unfold F_run_value unX
  simp only [slotDs, Option.map_some, Option.bind_some, x]
theorem ifx_no {c : TF} {a b : SX} {e : DEnv} (h : c e = some (false, e)) (hb : b e = some (.ok (.nx e))) : sIfX c a b e = some (.ok (.nx e)) := by
  unfold sIfX
  rw [h, Option.bind_some]
  simp only [Bool.false_eq_true, if_false]
  exact hb
theorem least_ok {C C' : Addr} {r : Run} (hz : r.f.length ≤ 1000) (h1 : Sl r) : FX_least_run C C' [.lst (r.f.map en), en r.s, .int r.k] = some (.ok (enR (lr r))) := by
  have w1 := worthsR_ok (l := r.f) (Nat.le_trans hz (by decide))
  have w2 := worth_ok (pl_en r.s)
  have w3 := slope_ok r.s r.k
  rw [en_wo] at w2
  rw [sl_slope h1] at w3
  have w4 := sh_ok hz
  simp! only [FX_least_run, runX, gX_least_run, sSeqX, sIfX, sOk, w1, w2, w3, w4]
theorem F_least_ok {C C' : Addr} {r : Run} (hz : r.f.length ≤ 1000) (h1 : Sl r) : F_least_run C C' [.dat (.lst (r.f.map en)), .dat (en r.s), .dat (.int r.k)] = some (enR (lr r), []) := by
  unfold F_least_run unX
  simp only [slotDs, Option.map_some, Option.bind_some, least_ok hz h1]
theorem leastT_ok {C C' : Addr} {r : Run} (hz : r.f.length ≤ 1000) (h1 : Sl r) : FT_least_run C C' [.lst (r.f.map en), en r.s, .int r.k] = some ((lr r).f.map en, [en (lr r).s, .int r.k]) := by
  have w1 := worthsR_ok (l := r.f) (Nat.le_trans hz (by decide))
  have w2 := worth_ok (pl_en r.s)
  have w3 := slope_ok r.s r.k
  rw [en_wo] at w2
  rw [sl_slope h1] at w3
  have w4 := shT_ok hz
  have st : ([Dv.lst (r.f.map en), en r.s, .int r.k].map Slot.dat ++ List.replicate (3 - [Dv.lst (r.f.map en), en r.s, .int r.k].length) Slot.non) = [.dat (.lst (r.f.map en)), .dat (en r.s), .dat (.int r.k)] := rfl
  have a1 : sIf (fNot (fTest (fCall 1 none F_are_worths (fCons (fVar 0) fNil)))) sNever sNext [.dat (.lst (r.f.map en)), .dat (en r.s), .dat (.int r.k)] = some (.nx [.dat (.lst (r.f.map en)), .dat (en r.s), .dat (.int r.k)]) := by
    simp! only [w1]
  have a2 : sIf (fNot (fTest (fCall 1 none F_is_worth (fCons (fVar 1) fNil)))) sNever sNext [.dat (.lst (r.f.map en)), .dat (en r.s), .dat (.int r.k)] = some (.nx [.dat (.lst (r.f.map en)), .dat (en r.s), .dat (.int r.k)]) := by
    simp! only [w2]
  have a3 : sIf (fNot (fTest (fCall 2 none F_is_slope (fCons (fVar 1) (fCons (fVar 2) fNil))))) sNever sNext [.dat (.lst (r.f.map en)), .dat (en r.s), .dat (.int r.k)] = some (.nx [.dat (.lst (r.f.map en)), .dat (en r.s), .dat (.int r.k)]) := by
    simp! only [w3]
  unfold FT_least_run runT gT_least_run
  rw [st, then_nx a1, then_nx a2, then_nx a3]
  simp! only [fCallT, lents, lent, w4]
end Law

set_option Elab.async false
set_option linter.all false
set_option maxRecDepth 100000
set_option maxHeartbeats 8000000
set_option exponentiation.threshold 2000
namespace Law
open PySem L2 DL
theorem lwhole_ok {d : Dv} (h : pl d = true) : F_law_whole [.dat d] = some (.bl (isW d), []) := by
  cases d <;> simp only [pl, Bool.false_eq_true] at h <;> simp! only [F_law_whole, g_law_whole, isIt, isW]
def isNo : Dv → Bool
  | .non => true
  | _ => false
theorem cut_one {l : List (Option Int)} : cut (l.map en) (some (-1)) none = (l.drop (l.length - 1)).map en := by
  have e : HT.sIx l.length 0 (some (-1)) = l.length - 1 := by
    show (if (-1 : Int) < 0 then ((-1 : Int) + (l.length : Int)).toNat else min (-1 : Int).toNat l.length) = _
    rw [if_pos (by decide)]
    omega
  have e2 : HT.sIx l.length l.length none = l.length := rfl
  rw [cut_map]
  unfold cut
  rw [e, e2]
  rw [List.take_of_length_le (by simp)]
theorem last_list (l : List (Option Int)) : l.drop (l.length - 1) = match l.getLast? with
  | none => []
  | some x => [x] := by
  cases h : l.getLast? with
  | none =>
    have : l = [] := by simpa using h
    subst this
    rfl
  | some x =>
    have hp : 0 < l.length := by
      cases l with
      | nil => cases h
      | cons _ _ => simp
    rw [List.getLast?_eq_getElem?] at h
    obtain ⟨h1, h2⟩ := List.getElem?_eq_some_iff.mp h
    rw [List.drop_eq_getElem_cons h1, List.drop_of_length_le (by omega), h2]
theorem ne_last {env : DEnv} {l : List (Option Int)} {y : Option Int} : gNe env (.d (.lst ((l.drop (l.length - 1)).map en))) (.d (.lst [en y])) = some (.d (.bl (!(l.getLast? == some y)))) := by
  have c : ∀ m : List (Option Int), eqC (.lst (m.map en)) (.lst [en y]) = true := fun m => eqC_ok ((okd_lst (n := 0) fun d hd => by
    obtain ⟨o, _, rfl⟩ := List.mem_map.mp hd
    exact okd_en o).mono (by decide)) ((okd_lst (n := 0) fun d hd => by
    rw [List.mem_singleton] at hd
    rw [hd]
    exact okd_en y).mono (by decide))
  rw [last_list]
  unfold gNe
  simp only [look]
  cases h : l.getLast? with
  | none =>
    have c := c []
    simp only [List.map_nil] at c ⊢
    rw [if_pos c, eqv_lst]
    rfl
  | some x =>
    have c := c [x]
    simp only [List.map_cons, List.map_nil] at c ⊢
    rw [if_pos c, eqv_lst]
    simp only [pys, PyData.eqvAll, eqv_en, Bool.and_true]
    rfl
theorem gEq_int0 {env : DEnv} {k : Int} : gEq env (.d (.int k)) (.d (.int 0)) = some (.d (.bl (k == 0))) := gEq_id
theorem fil_none : ∀ l : List (Option Int), (l.map en).filter (fun d => !isNo d && !isW d) = []
  | [] => rfl
  | o :: l => by
    rw [List.map_cons, List.filter_cons, fil_none l]
    cases o <;> rfl
noncomputable def il0  : SF := (sIf (fOr (fNot (fTest (fIsi .tuple (fVar 0)))) (fOr (fTest (fOp gNe (fCB (g1 gLen) (fCons (fVar 0) fNil)) (fC (.int (3 : Int))))) (fNot (fTest (fIsi .list (fOp gIx (fVar 0) (fC (.int (0 : Int))))))))) (sRet (fC (.bl false))) sNext)
noncomputable def il1  : SF := (sIf (fOr (fTest (fOp gNe (fOfL (fLc (fSeqIt (fOp gIx (fVar 0) (fC (.int (0 : Int))))) (fName 1) (fAnd (fTest (fOp (gIs true) (fVar 1) (fC .non))) (fNot (fTest (fCall 1 none F_law_whole (fCons (fVar 1) fNil))))) (fVar 1) [1])) (fLst' fNil))) (fNot (fTest (fCall 1 none F_law_whole (fCons (fOp gIx (fVar 0) (fC (.int (2 : Int)))) fNil))))) (sRet (fC (.bl false))) sNext)
noncomputable def il2  : SF := (sIf (fTest (fOp (gIs false) (fOp gIx (fVar 0) (fC (.int (1 : Int)))) (fC .non))) (sRet (fAndV (fOp gEq (fOp gIx (fVar 0) (fC (.int (2 : Int)))) (fC (.int (0 : Int)))) (fOp gNe (fSl (fOp gIx (fVar 0) (fC (.int (0 : Int)))) (fPart (fUn gNeg (fC (.int (1 : Int))))) fNoPart) (fLst' (fCons (fC .non) fNil))))) sNext)
noncomputable def il3  : SF := (sRet (fAndV (fCall 1 none F_law_whole (fCons (fOp gIx (fVar 0) (fC (.int (1 : Int)))) fNil)) (fOp gNe (fSl (fOp gIx (fVar 0) (fC (.int (0 : Int)))) (fPart (fUn gNeg (fC (.int (1 : Int))))) fNoPart) (fLst' (fCons (fOp gMinus (fOp gIx (fVar 0) (fC (.int (1 : Int)))) (fOp gIx (fVar 0) (fC (.int (2 : Int))))) fNil)))))
theorem il_all  : g_law_is_least  = (sSeq (il0 ) (sSeq (il1 ) (sSeq (il2 ) (il3 )))) := rfl
theorem il1_ok {f : List (Option Int)} (hz : f.length ≤ szL) {s : Option Int} {k : Int} : il1 [.dat (.tup [.lst (f.map en), en s, .int k]), .non] = some (.nx [.dat (.tup [.lst (f.map en), en s, .int k]), .non]) := by
  have a0 : atI [Dv.lst (f.map en), en s, .int k] 0 = some (.lst (f.map en)) := rfl
  have a2 : atI [Dv.lst (f.map en), en s, .int k] 2 = some (.int k) := rfl
  have w := lwhole_ok (d := .int k) rfl
  have e3 : fLc (fSeqIt (fOp gIx (fVar 0) (fC (.int (0 : Int))))) (fName 1) (fAnd (fTest (fOp (gIs true) (fVar 1) (fC .non))) (fNot (fTest (fCall 1 none F_law_whole (fCons (fVar 1) fNil))))) (fVar 1) [1] [.dat (.tup [.lst (f.map en), en s, .int k]), .non] = some ([], [.dat (.tup [.lst (f.map en), en s, .int k]), .non]) := by
    have := lc_fil (t := 1) (fi := fSeqIt (fOp gIx (fVar 0) (fC (.int (0 : Int))))) (ft := fAnd (fTest (fOp (gIs true) (fVar 1) (fC .non))) (fNot (fTest (fCall 1 none F_law_whole (fCons (fVar 1) fNil))))) (env := [.dat (.tup [.lst (f.map en), en s, .int k]), .non]) (e0 := [.dat (.tup [.lst (f.map en), en s, .int k]), .non]) (l := f) (i := en) (fun _ => false)
      (by simp! only [a0]) (by simp) rfl (fun o ho => by
        have w := lwhole_ok (pl_en o)
        cases o with
        | none => simp! only [en_n, isNon, Bool.true_xor]
        | some x =>
          simp only [en_s] at w ⊢
          simp! only [isNon, Bool.true_xor, w, isW]) hz
    have ff : f.filter (fun _ => false) = [] := by simp
    rwa [ff] at this
  have e4 : eqC (.lst []) (.lst []) = true := by rfl
  have e5 : PyData.eqv (py (.lst [])) (py (.lst [])) = true := by rfl
  simp! only [il1, a0, a2, w, isW, e3, gNe, e4, e5, (show (0 ≤ szL) = True by decide)]
theorem is_least_ok {r : Run} (hz : r.f.length ≤ szL) (hb : Sl r) : F_law_is_least [.dat (enR r)] = some (.bl (vdB r), []) := by
  obtain ⟨f, s, k⟩ := r
  have a0 : atI [Dv.lst (f.map en), en s, .int k] 0 = some (.lst (f.map en)) := rfl
  have a1 : atI [Dv.lst (f.map en), en s, .int k] 1 = some (en s) := rfl
  have a2 : atI [Dv.lst (f.map en), en s, .int k] 2 = some (.int k) := rfl
  have st : ([Slot.dat (enR ⟨f, s, k⟩)] ++ List.replicate (2 - [Slot.dat (enR ⟨f, s, k⟩)].length) Slot.non) = [.dat (.tup [.lst (f.map en), en s, .int k]), .non] := rfl
  have e0 : il0 [.dat (.tup [.lst (f.map en), en s, .int k]), .non] = some (.nx [.dat (.tup [.lst (f.map en), en s, .int k]), .non]) := by
    simp! only [il0, isIt, a0, gNe_id, c33]
  have e1 := il1_ok (f := f) hz (s := s) (k := k)
  unfold F_law_is_least runDef
  rw [st, il_all, seq_nx e0, seq_nx e1]
  cases s with
  | none =>
    have k0 : k = 0 := hb rfl
    subst k0
    have n := fun env => ne_last (env := env) (l := f) (y := none)
    simp only [en_n] at a0 a1 a2 n
    have v : vdB ⟨f, none, 0⟩ = !(f.getLast? == some none) := rfl
    have e2 : il2 [.dat (.tup [.lst (f.map en), en none, .int 0]), .non] = some (.rt (.bl (!(f.getLast? == some none))) [.dat (.tup [.lst (f.map en), en none, .int 0]), .non]) := by
      simp! only [il2, en_n, isNon, Bool.false_xor, a0, a1, a2, gEq_id, neg1, cut_one, n, (show ((0 : Int) == 0) = true from rfl), (show (1 ≤ szL) = True by decide)]
    rw [seq_rt e2, v]
    rfl
  | some x =>
    have n := fun env => ne_last (env := env) (l := f) (y := some (x - k))
    have w := lwhole_ok (d := .int x) rfl
    simp only [en_s] at a0 a1 a2 n
    have v : vdB ⟨f, some x, k⟩ = !(f.getLast? == some (some (x - k))) := rfl
    have e2 : il2 [.dat (.tup [.lst (f.map en), en (some x), .int k]), .non] = some (.nx [.dat (.tup [.lst (f.map en), en (some x), .int k]), .non]) := by
      simp! only [il2, en_s, isNon, Bool.false_xor, a1]
    have e3 : il3 [.dat (.tup [.lst (f.map en), en (some x), .int k]), .non] = some (.rt (.bl (!(f.getLast? == some (some (x - k))))) [.dat (.tup [.lst (f.map en), en (some x), .int k]), .non]) := by
      simp! only [il3, en_s, a0, a1, a2, w, isW, neg1, cut_one, n, (show (1 ≤ szL) = True by decide)]
    rw [seq_nx e2, e3, v]
    rfl
end Law

set_option Elab.async false
set_option linter.all false
set_option maxRecDepth 100000
set_option maxHeartbeats 8000000
set_option exponentiation.threshold 2000
namespace Law
open PySem L2 DL
noncomputable def lg0 (CL : Addr) (CN : Addr) (CR : Addr) : SF := (sOwn 2 (lListOf (fOp gIx (fVar 1) (fC (.int (0 : Int))))))
noncomputable def lg1 (CL : Addr) (CN : Addr) (CR : Addr) : SF := (sAsg (fOfT (fCallT 3 (FT_least_run CL CN) (fCons (fVar 2) (fCons (fOp gIx (fVar 1) (fC (.int (1 : Int)))) (fCons (fOp gIx (fVar 1) (fC (.int (2 : Int)))) fNil))))) (fName 3))
noncomputable def lg2 (CL : Addr) (CN : Addr) (CR : Addr) : SF := (sIf (fOr (fTest (fOp gNe (fCB (g1 gRepr) (fCons (fVar 2) fNil)) (fCB (g1 gRepr) (fCons (fOp gIx (fVar 1) (fC (.int (0 : Int)))) fNil)))) (fOr (fNot (fTest (fCall 1 none F_law_is_least (fCons (fVar 3) fNil)))) (fTest (fOp (gIs true) (fCall 1 none F_is_run (fCons (fVar 3) fNil)) (fC (.bl true)))))) (sRet (fC (.bl false))) sNext)
noncomputable def lg3 (CL : Addr) (CN : Addr) (CR : Addr) : SF := (sAsg (fOp gAdd (fOfL (lRng1 (fOp gAdd (fCB (g1 gLen) (fCons (fOp gIx (fVar 1) (fC (.int (0 : Int)))) fNil)) (fC (.int (4 : Int)))))) (fLst' (fCons (fCall 2 (some 0) F_law_random (fCons (fVar 0) (fCons (fOp gPow (fC (.int (10 : Int))) (fC (.int (30 : Int)))) fNil))) fNil))) (fName 4))
noncomputable def lg4b (CL : Addr) (CN : Addr) (CR : Addr) : SF := (sSeq (sIf (fTest (fOp gNe (fCB (g1 gRepr) (fCons (fCall 2 none F_law_value (fCons (fVar 3) (fCons (fVar 5) fNil))) fNil)) (fCB (g1 gRepr) (fCons (fCall 2 none F_law_value (fCons (fVar 1) (fCons (fVar 5) fNil))) fNil)))) (sRet (fC (.bl false))) sNext)
    (sIf (fTest (fOp gNe (fCB (g1 gRepr) (fCons (fCall 2 none (F_run_value CN CR) (fCons (fVar 3) (fCons (fVar 5) fNil))) fNil)) (fCB (g1 gRepr) (fCons (fCall 2 none F_law_value (fCons (fVar 1) (fCons (fVar 5) fNil))) fNil)))) (sRet (fC (.bl false))) sNext))
noncomputable def lg4 (CL : Addr) (CN : Addr) (CR : Addr) : SF := (sFor (fSeqIt (fVar 4)) (fName 5) (lg4b CL CN CR))
noncomputable def lg5 (CL : Addr) (CN : Addr) (CR : Addr) : SF := (sIf (fOr (fTest (fOp gNe (fCB (g1 gRepr) (fCons (fOp gIx (fVar 3) (fC (.int (2 : Int)))) fNil)) (fCB (g1 gRepr) (fCons (fOp gIx (fVar 1) (fC (.int (2 : Int)))) fNil)))) (fTest (fOp gNe (fCB (g1 gRepr) (fCons (fCall 1 none F_is_run (fCons (fVar 1) fNil)) fNil)) (fCB (g1 gRepr) (fCons (fCall 1 none F_law_is_least (fCons (fVar 1) fNil)) fNil))))) (sRet (fC (.bl false))) sNext)
noncomputable def lg6 (CL : Addr) (CN : Addr) (CR : Addr) : SF := (sOwn 6 (fLc (fRng1 (fCons (fOp gAdd (fCB (g1 gLen) (fCons (fOp gIx (fVar 1) (fC (.int (0 : Int)))) fNil)) (fCall 2 (some 0) F_law_random (fCons (fVar 0) (fCons (fC (.int (4 : Int))) fNil)))) fNil)) (fName 5) tYesF (fCall 2 none F_law_value (fCons (fVar 1) (fCons (fVar 5) fNil))) [5]))
noncomputable def lg7 (CL : Addr) (CN : Addr) (CR : Addr) : SF := (sBrkT 7 (fCallKT 3 3 [0, 2, 1] (FT_least_run CL CN) (fCons (fVar 6) (fCons (fOp gIx (fVar 1) (fC (.int (2 : Int)))) (fCons (fCall 2 none F_law_value (fCons (fVar 1) (fCons (fCB (g1 gLen) (fCons (fVar 6) fNil)) fNil))) fNil))))
    (sSeq (sAsg (fCB (g1 gRepr) (fCons (fVar 3) fNil)) (fName 8))
    (sSeq (sPrvApp 7 (.int (7 : Int)))
    (sSeq (sApp 2 (fC (.int (7 : Int))))
    (sSeq (sApp 6 (fC (.int (7 : Int))))
    (sRet (fAndV (fOp gEq (fCB (g1 gRepr) (fCons (fVar 3) fNil)) (fVar 8)) (fLend 7 (fOp gEq (fCB (g1 gRepr) (fCons (fTup' (fCons (fSl (fOp gIx (fVar 7) (fC (.int (0 : Int)))) fNoPart (fPart (fUn gNeg (fC (.int (1 : Int)))))) (fCons (fOp gIx (fVar 7) (fC (.int (1 : Int)))) (fCons (fOp gIx (fVar 7) (fC (.int (2 : Int)))) fNil)))) fNil)) (fVar 8))))))))))
theorem lg_all {CL : Addr} {CN : Addr} {CR : Addr} : g_law_least_good CL CN CR = (sSeq (lg0 CL CN CR) (sSeq (lg1 CL CN CR) (sSeq (lg2 CL CN CR) (sSeq (lg3 CL CN CR) (sSeq (lg4 CL CN CR) (sSeq (lg5 CL CN CR) (sSeq (lg6 CL CN CR) (lg7 CL CN CR)))))))) := rfl
abbrev GE (xs : List Dv) (raw given found counts num more again kept : Slot) : DEnv := [.own true xs, raw, given, found, counts, num, more, again, kept]
theorem gNe_ss {env : DEnv} {a b : Str} : gNe env (.d (.str a)) (.d (.str b)) = some (.d (.bl (!(a == b)))) := rfl
theorem p200 : (2 : Nat) ^ 150 + 2 ^ 150 * 2 ^ 200 < 10 ^ 300 := by decide +kernel
theorem vo_b {r : Run} (h : Rb r) {n : Nat} (hn : n ≤ 2 ^ 200) : ∀ y, vo r n = some y → y.natAbs < 10 ^ 300 := fun y hy => by
  by_cases q : n < r.f.length
  · have e : r.f[n]? = some r.f[n] := List.getElem?_eq_getElem q
    rw [vo_at e] at hy
    exact Nat.lt_trans (h.2.2.2.1 _ (List.getElem_mem q) y hy) p150
  · rw [vo_end (by omega)] at hy
    cases hs : r.s with
    | none => rw [hs] at hy; cases hy
    | some x =>
      rw [hs] at hy
      have hy : x + r.k * ((n : Int) - r.f.length) = y := Option.some.inj hy
      have b1 := h.2.2.1 x hs
      have b2 := h.2.1
      have b3 : ((n : Int) - r.f.length).natAbs ≤ 2 ^ 200 := by omega
      have a1 := Int.natAbs_add_le x (r.k * ((n : Int) - r.f.length))
      rw [hy, Int.natAbs_mul] at a1
      have m := Nat.mul_le_mul (Nat.le_of_lt b2) b3
      exact Nat.lt_of_le_of_lt (Nat.le_trans a1 (Nat.add_le_add (Nat.le_of_lt b1) m)) p200
theorem Rw.rb {r : Run} (h : Rw r) : Rb r := by
  obtain ⟨h1, h2, h3, h4, h5⟩ := h
  have p1 : (10 : Nat) ^ 31 < 2 ^ 150 := by decide +kernel
  have p2 : (10 : Nat) ^ 21 < 2 ^ 150 := by decide +kernel
  exact ⟨by omega, Nat.lt_of_le_of_lt h2 p2, fun x z => Nat.lt_of_le_of_lt (h3 x z) p1, fun o ho x z => Nat.lt_of_le_of_lt (h4 o ho x z) p1, h5⟩
theorem lenR {r : Run} (h : Rb r) : r.f.length ≤ 1000 := by have := h.1; omega
theorem lenS {r : Run} (h : Rb r) : r.f.length ≤ szL := Nat.le_trans h.1 (by decide)
variable {CL CN CR : Addr}
theorem lg0_ok {r : Run} (h : Rb r) {xs : List Dv} : lg0 CL CN CR (GE xs (.dat (enR r)) .non .non .non .non .non .non .non) = some (.nx (GE xs (.dat (enR r)) (.own false (r.f.map en)) .non .non .non .non .non .non)) := by
  have a0 : atI [Dv.lst (r.f.map en), en r.s, .int r.k] 0 = some (.lst (r.f.map en)) := rfl
  have z := lenS h
  simp! only [lg0, GE, enR, a0, List.length_map, z]
theorem lg1_ok {r : Run} (h : Rb r) {xs : List Dv} : lg1 CL CN CR (GE xs (.dat (enR r)) (.own false (r.f.map en)) .non .non .non .non .non .non) = some (.nx (GE xs (.dat (enR r)) (.own false (r.f.map en)) (.dat (enR (lr r))) .non .non .non .non .non)) := by
  have a1 : atI [Dv.lst (r.f.map en), en r.s, .int r.k] 1 = some (en r.s) := rfl
  have a2 : atI [Dv.lst (r.f.map en), en r.s, .int r.k] 2 = some (.int r.k) := rfl
  have w := leastT_ok (C := CL) (C' := CN) (lenR h) h.2.2.2.2
  simp! only [lg1, GE, enR, fOfT, fCallT, lents, lent, a1, a2, w]
  rfl
theorem lg2_ok {r : Run} (h : Rb r) {xs : List Dv} : lg2 CL CN CR (GE xs (.dat (enR r)) (.own false (r.f.map en)) (.dat (enR (lr r))) .non .non .non .non .non) = some (.nx (GE xs (.dat (enR r)) (.own false (r.f.map en)) (.dat (enR (lr r))) .non .non .non .non .non)) := by
  have a0 : atI [Dv.lst (r.f.map en), en r.s, .int r.k] 0 = some (.lst (r.f.map en)) := rfl
  have s1 : Sw 1 6090 (.lst (r.f.map en)) := sw_lst (n := 20) (fun d hd => by
    obtain ⟨o, ho, rfl⟩ := List.mem_map.mp hd
    exact (h.2.2.2.1 o ho).sw) (by rw [List.length_map]; exact h.1)
  have r1 := fun env => gRepr_of (env := env) (x := .d (.lst (r.f.map en))) rfl s1 (by decide) (by decide)
  have r2 := gRepr_of (env := GE xs (.dat (enR r)) (.own false (r.f.map en)) (.dat (enR (lr r))) .non .non .non .non .non) (x := .v 2) (d := .lst (r.f.map en)) rfl s1 (by decide) (by decide)
  have hb := lr_rb h
  have v := vd_B (lr_vd (r := r) h.2.2.2.2)
  have w1 := is_least_ok (lenS hb) hb.2.2.2.2
  have w2 := run_b (lenS hb) hb.2.2.2.2
  rw [v] at w1 w2
  simp only [GE, enR] at w1 w2 r2
  simp! only [lg2, GE, enR, a0, r1, r2, gNe_ss, beq_self_eq_true, Bool.not_true, w1, w2, Bool.true_xor]
theorem range_ints (n : Nat) : rangeD 0 n = ((List.range n).map fun i : Nat => (i : Int)).map Dv.int := by
  unfold rangeD
  rw [List.map_map]
  refine List.map_congr_left fun i _ => ?_
  show Dv.int (0 + (i : Int)) = Dv.int (i : Int)
  rw [Int.zero_add]
theorem lg3_ok {r : Run} (h : Rb r) {n : Nat} {xs : List Dv} (g : Good n xs) (hn : n ≤ 2 ^ 27) {x2 x3 : Slot} : ∃ xs' c, lg3 CL CN CR (GE xs (.dat (enR r)) x2 x3 .non .non .non .non .non) = some (.nx (GE xs' (.dat (enR r)) x2 x3 (.dat (.lst ((((List.range (r.f.length + 4)).map fun i : Nat => (i : Int)) ++ [c]).map Dv.int))) .non .non .non .non)) ∧ Good (n + 10) xs' ∧ 0 ≤ c ∧ c < 2 ^ 200 := by
  have p2 : CPw 10 30 := by decide +kernel
  have eb : (10 : Int) ^ (30 : Int).toNat = 1000000000000000000000000000000 := by decide +kernel
  obtain ⟨c, x1, d1, b1, b2, g1⟩ := rnd_ok (b := 1000000000000000000000000000000) g (by omega) (by decide) (by decide +kernel)
  have p3 : (1000000000000000000000000000000 : Int) < 2 ^ 200 := by decide +kernel
  have a0 : atI [Dv.lst (r.f.map en), en r.s, .int r.k] 0 = some (.lst (r.f.map en)) := rfl
  have h1 := h.1
  have es : szL = 16000000 := rfl
  have z1 : lrC ((r.f.length : Int) + 4) := by unfold lrC; omega
  have e5 : ((r.f.length : Int) + 4).toNat = r.f.length + 4 := by omega
  have zl : ((rangeD 0 (r.f.length + 4)).length + 1 ≤ szL) := by
    simp [rangeD]
    omega
  refine ⟨x1, c, ?_, g1, b1, by omega⟩
  rw [List.map_append, ← range_ints]
  simp! only [lg3, GE, enR, lRng1, a0, List.length_map, z1, e5, gPow, p2, eb, d1, zl, (show (1 ≤ szL) = True by decide)]
theorem lg4b_ok {r : Run} (h : Rb r) {xs : List Dv} {x2 x4 x6 x7 x8 : Slot} {n : Nat} (hn : n < 2 ^ 200) : lg4b CL CN CR (GE xs (.dat (enR r)) x2 (.dat (enR (lr r))) x4 (.dat (.int n)) x6 x7 x8) = some (.nx (GE xs (.dat (enR r)) x2 (.dat (enR (lr r))) x4 (.dat (.int n)) x6 x7 x8)) := by
  have hb := lr_rb h
  have p : (2 : Nat) ^ 200 < 2 ^ 400 := Nat.pow_lt_pow_right (by decide) (by decide)
  have v1 := value_ok h.sm (n := n) (Nat.lt_trans hn p)
  have v2 := value_ok hb.sm (n := n) (Nat.lt_trans hn p)
  have v3 := run_value_ok (C := CN) (C' := CR) hb.sm (lr_vd h.2.2.2.2) (n := n) (Nat.lt_trans hn p)
  rw [lr_vo] at v2 v3
  have rp := fun env => gRepr_en (env := env) (x := .d (en (vo r n))) (o := vo r n) rfl (vo_b h (Nat.le_of_lt hn))
  simp! only [lg4b, GE, v1, v2, v3, rp, gNe_ss, beq_self_eq_true, Bool.not_true]
def Q5 (x5 : Slot) : Prop := x5 = .non ∨ ∃ i : Int, x5 = .dat (.int i)
theorem lg4_ok {r : Run} (h : Rb r) {xs : List Dv} {x2 x6 x7 x8 : Slot} (l : List Int) (hl : ∀ i ∈ l, 0 ≤ i ∧ i < 2 ^ 200) : ∃ x5, Q5 x5 ∧ lg4 CL CN CR (GE xs (.dat (enR r)) x2 (.dat (enR (lr r))) (.dat (.lst (l.map Dv.int))) .non x6 x7 x8) = some (.nx (GE xs (.dat (enR r)) x2 (.dat (enR (lr r))) (.dat (.lst (l.map Dv.int))) x5 x6 x7 x8)) := by
  have key : ∀ (m : List Int) (x5 : Slot), (∀ i ∈ m, 0 ≤ i ∧ i < 2 ^ 200) → Q5 x5 → ∃ y5, Q5 y5 ∧ loopF (fName 5) (lg4b CL CN CR) (m.map Dv.int) (GE xs (.dat (enR r)) x2 (.dat (enR (lr r))) (.dat (.lst (l.map Dv.int))) x5 x6 x7 x8) = some (.nx (GE xs (.dat (enR r)) x2 (.dat (enR (lr r))) (.dat (.lst (l.map Dv.int))) y5 x6 x7 x8)) := by
    intro m
    induction m with
    | nil => intro x5 _ n5; exact ⟨x5, n5, rfl⟩
    | cons i m ih =>
      intro x5 h5 n5
      obtain ⟨i0, i1⟩ := h5 i List.mem_cons_self
      obtain ⟨n, rfl⟩ := Int.eq_ofNat_of_zero_le i0
      have hn : n < 2 ^ 200 := by
        have e : ((2 ^ 200 : Nat) : Int) = 2 ^ 200 := by decide +kernel
        omega
      obtain ⟨y5, q5, q⟩ := ih (.dat (.int n)) (fun j hj => h5 j (List.mem_cons_of_mem _ hj)) (.inr ⟨_, rfl⟩)
      refine ⟨y5, q5, ?_⟩
      have f : fName 5 (.int n) (GE xs (.dat (enR r)) x2 (.dat (enR (lr r))) (.dat (.lst (l.map Dv.int))) x5 x6 x7 x8) = some (GE xs (.dat (enR r)) x2 (.dat (enR (lr r))) (.dat (.lst (l.map Dv.int))) (.dat (.int n)) x6 x7 x8) := by
        rcases n5 with rfl | ⟨i, rfl⟩ <;> rfl
      rw [List.map_cons, e_loop1, f, Option.bind_some, lg4b_ok h hn, Option.bind_some]
      exact q
  obtain ⟨y5, q1, q⟩ := key l .non hl (.inl rfl)
  refine ⟨y5, q1, ?_⟩
  simp only [GE] at q
  simp! only [lg4, GE, -e_loop1, q]
theorem sw_bl {b : Bool} : Sw 0 302 (.bl b) := by
  refine ⟨rfl, ⟨by cases b <;> decide, by cases b <;> decide⟩, ?_⟩
  cases b
  · show (Str.ofString "False").length ≤ 302
    decide +kernel
  · show (Str.ofString "True").length ≤ 302
    decide +kernel
theorem lg5_ok {r : Run} (h : Rb r) {xs : List Dv} {x2 x4 x5 : Slot} : lg5 CL CN CR (GE xs (.dat (enR r)) x2 (.dat (enR (lr r))) x4 x5 .non .non .non) = some (.nx (GE xs (.dat (enR r)) x2 (.dat (enR (lr r))) x4 x5 .non .non .non)) := by
  have a2 : atI [Dv.lst (r.f.map en), en r.s, .int r.k] 2 = some (.int r.k) := rfl
  have a3 : atI [Dv.lst ((lr r).f.map en), en (lr r).s, .int (lr r).k] 2 = some (.int r.k) := rfl
  have w1 := is_least_ok (lenS h) h.2.2.2.2
  have w2 := run_b (lenS h) h.2.2.2.2
  have r1 := fun env => gRepr_of (env := env) (x := .d (.int r.k)) rfl (sw_int (Nat.lt_trans h.2.1 p150)) (by decide) (by decide)
  have r2 := fun env => gRepr_of (env := env) (x := .d (.bl (vdB r))) rfl sw_bl (by decide) (by decide)
  simp only [enR] at w1 w2
  simp! only [lg5, GE, enR, a2, a3, r1, r2, w1, w2, gNe_ss, beq_self_eq_true, Bool.not_true]
end Law

set_option Elab.async false
set_option linter.all false
set_option maxRecDepth 100000
set_option maxHeartbeats 8000000
set_option exponentiation.threshold 2000
namespace Law
open PySem L2 DL
variable {CL CN CR : Addr}
theorem lg6_ok {r : Run} (h : Rb r) {n : Nat} {xs : List Dv} (g : Good n xs) (hn : n ≤ 2 ^ 27) {x2 x3 x4 x5 : Slot} (q5 : Q5 x5) : ∃ xs' c, lg6 CL CN CR (GE xs (.dat (enR r)) x2 x3 x4 x5 .non .non .non) = some (.nx (GE xs' (.dat (enR r)) x2 x3 x4 x5 (.own false (((List.range (r.f.length + c)).map (vo r)).map en)) .non .non)) ∧ Good (n + 10) xs' ∧ c < 4 := by
  obtain ⟨c, x1, d1, b1, b2, gd⟩ := rnd_ok (b := 4) g (by omega) (by decide) (by decide)
  obtain ⟨c, rfl⟩ := Int.eq_ofNat_of_zero_le b1
  have a0 : atI [Dv.lst (r.f.map en), en r.s, .int r.k] 0 = some (.lst (r.f.map en)) := rfl
  have h1 := h.1
  have es : szL = 16000000 := rfl
  have hr : rngC ((r.f.length : Int) + (c : Int)) := rng_ok (by omega) (by omega)
  have e5 : ((r.f.length : Int) + (c : Int)).toNat = r.f.length + c := by omega
  have no : noOwnB [5] (GE x1 (.dat (enR r)) x2 x3 x4 x5 .non .non .non) = true := by
    rcases q5 with rfl | ⟨i, rfl⟩ <;> rfl
  have p : (100 : Nat) < 2 ^ 400 := Nat.lt_trans (by decide) (Nat.pow_lt_pow_right (m := 7) (by decide) (by decide))
  have lc := lc_map (t := 5) (fi := fRng1 (fCons (fOp gAdd (fCB (g1 gLen) (fCons (fOp gIx (fVar 1) (fC (.int (0 : Int)))) fNil)) (fCall 2 (some 0) F_law_random (fCons (fVar 0) (fCons (fC (.int (4 : Int))) fNil)))) fNil)) (fe := fCall 2 none F_law_value (fCons (fVar 1) (fCons (fVar 5) fNil))) (env := GE xs (.dat (enR r)) x2 x3 x4 x5 .non .non .non) (e0 := GE x1 (.dat (enR r)) x2 x3 x4 x5 .non .non .non) (l := List.range (r.f.length + c)) (i := fun n : Nat => Dv.int (0 + (n : Int))) (fun n => en (vo r n))
    (by simp! only [GE, enR, a0, List.length_map, d1, hr, e5]
        rfl) (by simp) no (fun m hm => by
      have hm := List.mem_range.mp hm
      have v := value_ok h.sm (n := m) (Nat.lt_trans (by omega) p)
      rw [Int.zero_add]
      simp! only [GE, List.set, v]) (by rw [List.length_range]; omega)
  refine ⟨x1, c, ?_, gd, by omega⟩
  rw [List.map_map]
  show lg6 CL CN CR _ = some (.nx (GE x1 (.dat (enR r)) x2 x3 x4 x5 (.own false ((List.range (r.f.length + c)).map fun n => en (vo r n))) .non .non))
  unfold lg6 sOwn
  rw [lc]
  rfl
theorem brkT_go {f : NF} {g : SF} {i : Nat} {env e1 : DEnv} {xs es : List Dv} (h : f env = some (xs, es, e1)) (h1 : e1.all noPrv = true) (h2 : canSet e1 i = true) : sBrkT i f g env = (g (e1.set i (.prv (.tup (.lst xs :: es))))).map dropO := by
  unfold sBrkT
  rw [h, Option.bind_some, if_pos ⟨h1, h2⟩]
def moreR (r : Run) (c : Nat) : Run := ⟨(List.range (r.f.length + c)).map (vo r), vo r (r.f.length + c), r.k⟩
theorem vo_none {r : Run} {n : Nat} (hn : r.f.length ≤ n) (h : vo r n = none) : r.s = none := by
  rw [vo_end hn] at h
  cases q : r.s with
  | none => rfl
  | some x => rw [q] at h; cases h
theorem cut7 {l : List (Option Int)} : cut (l.map en ++ [Dv.int 7]) none (some (-1)) = l.map en := by
  have := cut_last (l := l ++ [some 7])
  rw [List.map_append, List.dropLast_concat] at this
  exact this
theorem imm_app {l : List (Option Int)} : (l.map en ++ [Dv.int 7]).all immB = true := by
  rw [List.all_append, imm_en]
  rfl
theorem immG {n : Nat} {xs : List Dv} (g : Good n xs) : xs.all immB = true := by
  obtain ⟨a, s, c, rfl, _⟩ := g
  rfl
theorem gEq_st {env : DEnv} {x y : RV} {a : Str} (h1 : look env x = some (.str a)) (h2 : look env y = some (.str a)) : gEq env x y = some (.d (.bl true)) := by
  unfold gEq
  rw [h1, h2]
  show some (RV.d (Dv.bl (a == a))) = _
  rw [beq_self_eq_true]
noncomputable def lgb : SF := (sSeq (sAsg (fCB (g1 gRepr) (fCons (fVar 3) fNil)) (fName 8))
    (sSeq (sPrvApp 7 (.int (7 : Int)))
    (sSeq (sApp 2 (fC (.int (7 : Int))))
    (sSeq (sApp 6 (fC (.int (7 : Int))))
    (sRet (fAndV (fOp gEq (fCB (g1 gRepr) (fCons (fVar 3) fNil)) (fVar 8)) (fLend 7 (fOp gEq (fCB (g1 gRepr) (fCons (fTup' (fCons (fSl (fOp gIx (fVar 7) (fC (.int (0 : Int)))) fNoPart (fPart (fUn gNeg (fC (.int (1 : Int)))))) (fCons (fOp gIx (fVar 7) (fC (.int (1 : Int)))) (fCons (fOp gIx (fVar 7) (fC (.int (2 : Int)))) fNil)))) fNil)) (fVar 8)))))))))
theorem prvApp_go {i : Nat} {c : Dv} {env : DEnv} {xs es : List Dv} (h : env[i]? = some (.prv (.tup (.lst xs :: es)))) (h1 : xs.all immB = true) (h2 : es.all immB = true) (h3 : immB c = true) (h4 : xs.length < szL) (h5 : (env.set i .non).all noPrv = true) : sPrvApp i c env = some (.nx (env.set i (.prv (.tup (.lst (xs ++ [c]) :: es))))) := by
  unfold sPrvApp
  rw [h]
  dsimp only
  rw [if_pos ⟨h1, h2, h3, h4, h5⟩]
theorem lgb_ok {R : Run} (hR : Rb R) {n : Nat} {xs : List Dv} (g : Good n xs) {x1 : Dv} {l2 l6 : List (Option Int)} (h2 : l2.length ≤ 1000) (h6 : l6.length ≤ 1000) {d4 : Dv} {x5 : Slot} (q5 : Q5 x5) :
    ∃ E, lgb (GE xs (.dat x1) (.own false (l2.map en)) (.dat (enR R)) (.dat d4) x5 (.own false (l6.map en)) (.prv (enR R)) .non) = some (.rt (.bl true) (.own true xs :: E)) := by
  have sw := hR.sw
  have r3 := fun x2 x6 x7 x8 => gRepr_of (env := GE xs (.dat x1) x2 (.dat (enR R)) (.dat d4) x5 x6 x7 x8) (x := .v 3) rfl sw (by decide) (by decide)
  have rT := fun env => gRepr_of (env := env) (x := .d (enR R)) rfl sw (by decide) (by decide)
  generalize ht : (py (enR R)).shown = t at r3 rT
  have r3' := r3
  simp only [GE] at r3'
  have e1 : sAsg (fCB (g1 gRepr) (fCons (fVar 3) fNil)) (fName 8) (GE xs (.dat x1) (.own false (l2.map en)) (.dat (enR R)) (.dat d4) x5 (.own false (l6.map en)) (.prv (enR R)) .non) = some (.nx (GE xs (.dat x1) (.own false (l2.map en)) (.dat (enR R)) (.dat d4) x5 (.own false (l6.map en)) (.prv (enR R)) (.dat (.str t)))) := by
    simp! only [GE, r3']
  have es : szL = 16000000 := rfl
  have z0 : (R.f.map en).length < szL := by
    have := hR.1
    rw [List.length_map]
    omega
  have i2 : [en R.s, Dv.int R.k].all immB = true := by cases R.s <;> rfl
  have np : ∀ x8 : Dv, (GE xs (.dat x1) (.own false (l2.map en)) (.dat (enR R)) (.dat d4) x5 (.own false (l6.map en)) .non (.dat x8)).all noPrv = true := fun x8 => by
    rcases q5 with rfl | ⟨i, rfl⟩ <;> rfl
  have e2 : sPrvApp 7 (.int (7 : Int)) (GE xs (.dat x1) (.own false (l2.map en)) (.dat (enR R)) (.dat d4) x5 (.own false (l6.map en)) (.prv (enR R)) (.dat (.str t))) = some (.nx (GE xs (.dat x1) (.own false (l2.map en)) (.dat (enR R)) (.dat d4) x5 (.own false (l6.map en)) (.prv (.tup (.lst (R.f.map en ++ [.int 7]) :: [en R.s, .int R.k]))) (.dat (.str t)))) :=
    prvApp_go (xs := R.f.map en) (es := [en R.s, .int R.k]) rfl imm_en i2 rfl z0 (np _)
  have z2 : l2.length < szL := by omega
  have z6 : l6.length < szL := by omega
  have e3 : sApp 2 (fC (.int (7 : Int))) (GE xs (.dat x1) (.own false (l2.map en)) (.dat (enR R)) (.dat d4) x5 (.own false (l6.map en)) (.prv (.tup (.lst (R.f.map en ++ [.int 7]) :: [en R.s, .int R.k]))) (.dat (.str t))) = some (.nx (GE xs (.dat x1) (.own false (l2.map en ++ [.int 7])) (.dat (enR R)) (.dat d4) x5 (.own false (l6.map en)) (.prv (.tup (.lst (R.f.map en ++ [.int 7]) :: [en R.s, .int R.k]))) (.dat (.str t)))) := by
    simp! only [GE, List.length_map, z2]
  have e4 : sApp 6 (fC (.int (7 : Int))) (GE xs (.dat x1) (.own false (l2.map en ++ [.int 7])) (.dat (enR R)) (.dat d4) x5 (.own false (l6.map en)) (.prv (.tup (.lst (R.f.map en ++ [.int 7]) :: [en R.s, .int R.k]))) (.dat (.str t))) = some (.nx (GE xs (.dat x1) (.own false (l2.map en ++ [.int 7])) (.dat (enR R)) (.dat d4) x5 (.own false (l6.map en ++ [.int 7])) (.prv (.tup (.lst (R.f.map en ++ [.int 7]) :: [en R.s, .int R.k]))) (.dat (.str t)))) := by
    simp! only [GE, List.length_map, z6]
  have a0 : atI [Dv.lst (R.f.map en ++ [.int 7]), en R.s, .int R.k] 0 = some (.lst (R.f.map en ++ [.int 7])) := rfl
  have a1 : atI [Dv.lst (R.f.map en ++ [.int 7]), en R.s, .int R.k] 1 = some (en R.s) := rfl
  have a2 : atI [Dv.lst (R.f.map en ++ [.int 7]), en R.s, .int R.k] 2 = some (.int R.k) := rfl
  have f7 : fLend 7 (fOp gEq (fCB (g1 gRepr) (fCons (fTup' (fCons (fSl (fOp gIx (fVar 7) (fC (.int (0 : Int)))) fNoPart (fPart (fUn gNeg (fC (.int (1 : Int)))))) (fCons (fOp gIx (fVar 7) (fC (.int (1 : Int)))) (fCons (fOp gIx (fVar 7) (fC (.int (2 : Int)))) fNil)))) fNil)) (fVar 8)) (GE xs (.dat x1) (.own false (l2.map en ++ [.int 7])) (.dat (enR R)) (.dat d4) x5 (.own false (l6.map en ++ [.int 7])) (.prv (.tup (.lst (R.f.map en ++ [.int 7]) :: [en R.s, .int R.k]))) (.dat (.str t))) = some (.d (.bl true), GE xs (.dat x1) (.own false (l2.map en ++ [.int 7])) (.dat (enR R)) (.dat d4) x5 (.own false (l6.map en ++ [.int 7])) (.prv (.tup (.lst (R.f.map en ++ [.int 7]) :: [en R.s, .int R.k]))) (.dat (.str t))) := by
    refine fLend_of (d := .tup (.lst (R.f.map en ++ [.int 7]) :: [en R.s, .int R.k])) rfl ⟨?_, ?_⟩ ?_ rfl
    · have o5 : ownImm x5 = true := by rcases q5 with rfl | ⟨i, rfl⟩ <;> rfl
      simp only [GE, List.all_cons, List.all_nil, o5, Bool.and_true, Bool.true_and]
      simp only [ownImm, immG g, imm_app, Bool.and_self]
    · rcases q5 with rfl | ⟨i, rfl⟩ <;> rfl
    · simp only [enR] at rT
      simp! only [GE, List.set, enR, a0, a1, a2, neg1, cut7, rT, (show (3 ≤ szL) = True by decide)]
      exact congrArg (Option.map _) (gEq_st rfl rfl)
  refine ⟨[.dat x1, .own false (l2.map en ++ [.int 7]), .dat (enR R), .dat d4, x5, .own false (l6.map en ++ [.int 7]), .prv (.tup (.lst (R.f.map en ++ [.int 7]) :: [en R.s, .int R.k])), .dat (.str t)], ?_⟩
  unfold lgb
  rw [seq_nx e1, seq_nx e2, seq_nx e3, seq_nx e4]
  have e6 : (fOp gEq (fCB (g1 gRepr) (fCons (fVar 3) fNil)) (fVar 8)) (GE xs (.dat x1) (.own false (l2.map en ++ [.int 7])) (.dat (enR R)) (.dat d4) x5 (.own false (l6.map en ++ [.int 7])) (.prv (.tup (.lst (R.f.map en ++ [.int 7]) :: [en R.s, .int R.k]))) (.dat (.str t))) = some (.d (.bl true), GE xs (.dat x1) (.own false (l2.map en ++ [.int 7])) (.dat (enR R)) (.dat d4) x5 (.own false (l6.map en ++ [.int 7])) (.prv (.tup (.lst (R.f.map en ++ [.int 7]) :: [en R.s, .int R.k]))) (.dat (.str t))) := by
    simp only [GE] at r3
    simp! only [GE, r3]
    exact congrArg (Option.map _) (gEq_st rfl rfl)
  generalize fLend 7 _ = L at f7 ⊢
  generalize fOp gEq _ _ = M at e6 ⊢
  unfold sRet
  rw [e_andV, e6]
  simp only [Option.bind_some, asB, look, if_true]
  rw [f7]
  rfl
theorem noE {xs : List Dv} {r : Dv} {l2 : List Dv} {R d4 : Dv} {x5 : Slot} {l6 : List Dv} (q5 : Q5 x5) : (GE xs (.dat r) (.own false l2) (.dat R) (.dat d4) x5 (.own false l6) .non .non).all noPrv = true := by
  rcases q5 with rfl | ⟨i, rfl⟩ <;> rfl
theorem least_good_ok {n : Nat} {xs : List Dv} (g : Good n xs) (hn : n ≤ 2 ^ 26) {r : Run} (h : Rw r) : ∃ xs', F_law_least_good CL CN CR [.own true xs, .dat (enR r)] = some (.bl true, xs') ∧ Good (n + 30) xs' := by
  have hb := h.rb
  obtain ⟨x3, c, e3, g3, c0, c1⟩ := lg3_ok (CL := CL) (CN := CN) (CR := CR) hb g (by omega) (x2 := .own false (r.f.map en)) (x3 := .dat (enR (lr r)))
  have h1 := hb.1
  obtain ⟨x5, q5, e4⟩ := lg4_ok (CL := CL) (CN := CN) (CR := CR) hb (xs := x3) (x2 := .own false (r.f.map en)) (x6 := .non) (x7 := .non) (x8 := .non) (((List.range (r.f.length + 4)).map fun i : Nat => (i : Int)) ++ [c]) (fun i hi => by
    rcases List.mem_append.mp hi with hi | hi
    · obtain ⟨k, hk, rfl⟩ := List.mem_map.mp hi
      have := List.mem_range.mp hk
      have p : (100 : Int) < 2 ^ 200 := by decide +kernel
      omega
    · rw [List.mem_singleton.mp hi]
      exact ⟨c0, c1⟩)
  obtain ⟨x6, m, e6, g6, hm⟩ := lg6_ok (CL := CL) (CN := CN) (CR := CR) hb g3 (by omega) (x2 := .own false (r.f.map en)) (x3 := .dat (enR (lr r))) (x4 := .dat (.lst ((((List.range (r.f.length + 4)).map fun i : Nat => (i : Int)) ++ [c]).map Dv.int))) q5
  have hl : (moreR r m).f.length = r.f.length + m := by
    show ((List.range (r.f.length + m)).map (vo r)).length = _
    rw [List.length_map, List.length_range]
  have sl : Sl (moreR r m) := fun z => hb.2.2.2.2 (vo_none (Nat.le_add_right _ _) z)
  have w := leastT_ok (C := CL) (C' := CN) (r := moreR r m) (by rw [hl]; omega) sl
  have oe : lr (moreR r m) = lr r := on_eq r m
  rw [oe] at w
  have p : (100 : Nat) < 2 ^ 400 := Nat.lt_trans (by decide) (Nat.pow_lt_pow_right (m := 7) (by decide) (by decide))
  have v := value_ok hb.sm (n := r.f.length + m) (Nat.lt_trans (by omega) p)
  have a2 : atI [Dv.lst (r.f.map en), en r.s, .int r.k] 2 = some (.int r.k) := rfl
  have e7 : fCallKT 3 3 [0, 2, 1] (FT_least_run CL CN) (fCons (fVar 6) (fCons (fOp gIx (fVar 1) (fC (.int (2 : Int)))) (fCons (fCall 2 none F_law_value (fCons (fVar 1) (fCons (fCB (g1 gLen) (fCons (fVar 6) fNil)) fNil))) fNil))) (GE x6 (.dat (enR r)) (.own false (r.f.map en)) (.dat (enR (lr r))) (.dat (.lst ((((List.range (r.f.length + 4)).map fun i : Nat => (i : Int)) ++ [c]).map Dv.int))) x5 (.own false ((moreR r m).f.map en)) .non .non) = some ((lr r).f.map en, [en (lr r).s, .int r.k], GE x6 (.dat (enR r)) (.own false (r.f.map en)) (.dat (enR (lr r))) (.dat (.lst ((((List.range (r.f.length + 4)).map fun i : Nat => (i : Int)) ++ [c]).map Dv.int))) x5 (.own false ((moreR r m).f.map en)) .non .non) := by
    have w' : FT_least_run CL CN [Dv.lst ((moreR r m).f.map en), en (vo r (r.f.length + m)), .int r.k] = some ((lr r).f.map en, [en (lr r).s, .int r.k]) := w
    simp only [enR] at v
    rw [← hl] at v w'
    have lg : (gix [0, 2, 1] [Dv.lst ((moreR r m).f.map en), .int r.k, en (vo r (moreR r m).f.length)]).length = 3 := rfl
    simp! only [fCallKT, GE, enR, lents, lent, a2, List.length_map, v, w', lg]
  obtain ⟨E, e8⟩ := lgb_ok (R := lr r) (lr_rb hb) (g6) (xs := x6) (x1 := enR r) (l2 := r.f) (l6 := (moreR r m).f) (by omega) (by rw [hl]; omega) (d4 := .lst ((((List.range (r.f.length + 4)).map fun i : Nat => (i : Int)) ++ [c]).map Dv.int)) q5
  have e9 : lg7 CL CN CR (GE x6 (.dat (enR r)) (.own false (r.f.map en)) (.dat (enR (lr r))) (.dat (.lst ((((List.range (r.f.length + 4)).map fun i : Nat => (i : Int)) ++ [c]).map Dv.int))) x5 (.own false ((moreR r m).f.map en)) .non .non) = some (.rt (.bl true) (.own true x6 :: dropP E)) := by
    have b := brkT_go (g := lgb) (i := 7) e7 (noE q5) rfl
    have st : (GE x6 (.dat (enR r)) (.own false (r.f.map en)) (.dat (enR (lr r))) (.dat (.lst ((((List.range (r.f.length + 4)).map fun i : Nat => (i : Int)) ++ [c]).map Dv.int))) x5 (.own false ((moreR r m).f.map en)) .non .non).set 7 (.prv (.tup (.lst ((lr r).f.map en) :: [en (lr r).s, .int r.k]))) = GE x6 (.dat (enR r)) (.own false (r.f.map en)) (.dat (enR (lr r))) (.dat (.lst ((((List.range (r.f.length + 4)).map fun i : Nat => (i : Int)) ++ [c]).map Dv.int))) x5 (.own false ((moreR r m).f.map en)) (.prv (enR (lr r))) .non := rfl
    rw [st, e8] at b
    exact b
  refine ⟨x6, ?_, g6.mono (by omega)⟩
  have st : ([Slot.own true xs, .dat (enR r)] ++ List.replicate (9 - [Slot.own true xs, .dat (enR r)].length) Slot.non) = GE xs (.dat (enR r)) .non .non .non .non .non .non .non := rfl
  unfold F_law_least_good runDef
  rw [st, lg_all, seq_nx (lg0_ok hb), seq_nx (lg1_ok hb), seq_nx (lg2_ok hb), seq_nx e3, seq_nx e4, seq_nx (lg5_ok hb), seq_nx e6]
  have e9' := e9
  unfold moreR at e9'
  rw [e9']
  rfl
end Law

set_option Elab.async false
set_option linter.all false
set_option maxRecDepth 100000
set_option maxHeartbeats 8000000
set_option exponentiation.threshold 2000
namespace Law
open PySem L2 DL
noncomputable def lc0 (CL : Addr) (CN : Addr) (CR : Addr) : SF := (sAsg (fC .non) (fName 2))
noncomputable def lc1 (CL : Addr) (CN : Addr) (CR : Addr) : SF := (sTry 3 2 [CL, CN, CR] (sIfX (fTest (fOp gEq (fVar 0) (fC (.int (0 : Int))))) (sDropX (fCallX 3 (FX_least_run CL CN) (fCons (fOp gIx (fVar 1) (fC (.int (0 : Int)))) (fCons (fOp gIx (fVar 1) (fC (.int (1 : Int)))) (fCons (fOp gIx (fVar 1) (fC (.int (2 : Int)))) fNil))))) (sDropX (fCallX 2 (FX_run_value CN CR) (fCons (fOp gIx (fVar 1) (fC (.int (0 : Int)))) (fCons (fOp gIx (fVar 1) (fC (.int (1 : Int)))) fNil))))))
noncomputable def lc2 (CL : Addr) (CN : Addr) (CR : Addr) : SF := (sIf (fAnd (fTest (fIsX [(CL, true), (CN, false), (CR, false)] (fVar 2))) (fNot (fTest (fIsXT [CN, CR] [(CL, false), (CN, true), (CR, true)] (fVar 2) (fTup' (fCons (fC (.cls CN)) (fCons (fC (.cls CR)) fNil))))))) (sRet (fLst' (fCons (fC (.str "list")) (fCons (fCB (g1 gRepr) (fCons (fXv [CL, CN, CR] "value" (fVar 2)) fNil)) fNil)))) sNext)
noncomputable def lc3 (CL : Addr) (CN : Addr) (CR : Addr) : SF := (sIf (fAnd (fTest (fIsX [(CL, false), (CN, true), (CR, false)] (fVar 2))) (fNot (fTest (fIsXT [CL, CR] [(CL, true), (CN, false), (CR, true)] (fVar 2) (fTup' (fCons (fC (.cls CL)) (fCons (fC (.cls CR)) fNil))))))) (sRet (fLst' (fCons (fC (.str "number")) (fCons (fCB (g1 gRepr) (fCons (fXv [CL, CN, CR] "value" (fVar 2)) fNil)) fNil)))) sNext)
noncomputable def lc4 (CL : Addr) (CN : Addr) (CR : Addr) : SF := (sIf (fAnd (fTest (fIsX [(CL, false), (CN, false), (CR, true)] (fVar 2))) (fNot (fTest (fIsXT [CL, CN] [(CL, true), (CN, true), (CR, false)] (fVar 2) (fTup' (fCons (fC (.cls CL)) (fCons (fC (.cls CN)) fNil))))))) (sRet (fLst' (fCons (fC (.str "run")) (fCons (fCB (g1 gRepr) (fCons (fXv [CL, CN, CR] "value" (fVar 2)) fNil)) fNil)))) sNext)
noncomputable def lc5 (CL : Addr) (CN : Addr) (CR : Addr) : SF := (sRet (fLst' (fCons (fC (.str "none")) (fCons (fC (.str "")) fNil))))
theorem lc_all {CL : Addr} {CN : Addr} {CR : Addr} : g_law_caught CL CN CR = (sSeq (lc0 CL CN CR) (sSeq (lc1 CL CN CR) (sSeq (lc2 CL CN CR) (sSeq (lc3 CL CN CR) (sSeq (lc4 CL CN CR) (lc5 CL CN CR)))))) := rfl
variable {CL CN CR : Addr}
def TXT (x : Str) : Prop := (PyData.str x).canLay0 = true
theorem TXT.okd {x : Str} (h : TXT x) : okd 10 (.str x) := ⟨h, by simp [py, PyData.depth]⟩
theorem okd2 {a b : Str} (ha : TXT a) (hb : TXT b) : okd 64 (.lst [.str a, .str b]) := (okd_lst (n := 10) fun d hd => by
  simp only [List.mem_cons, List.not_mem_nil, or_false] at hd
  rcases hd with rfl | rfl
  · exact ha.okd
  · exact hb.okd).mono (by decide)
theorem ne_two {env : DEnv} {a b : Str} (ha : TXT a) (hb : TXT b) : gNe env (.d (.lst [.str a, .str b])) (.d (.lst [.str a, .str b])) = some (.d (.bl false)) := by
  have c : eqC (.lst [.str a, .str b]) (.lst [.str a, .str b]) = true := eqC_ok (okd2 ha hb) (okd2 ha hb)
  unfold gNe
  simp only [look]
  rw [if_pos c, eqv_lst]
  simp only [pys, PyData.eqvAll, eqv_str, beq_self_eq_true, Bool.and_true, Bool.not_true]
/-- a value whose text can be told -/
structure Bd (d : Dv) : Prop where
  sw : Sw 10 1000 d
  tx : TXT (py d).shown
/-- the three classes are three -/
structure Cs (CL CN CR : Addr) : Prop where
  a : CL ≠ CN
  b : CL ≠ CR
  c : CN ≠ CR
def ckE (w : Int) (g : List Dv) (d : Dv) : DEnv := [.dat (.int w), .dat (.lst g), .dat d, .non]
variable {w : Int} {g : List Dv} {d : Dv}
theorem tail0 (h : Cs CL CN CR) (s : Bd d) : sSeq (lc2 CL CN CR) (sSeq (lc3 CL CN CR) (sSeq (lc4 CL CN CR) (lc5 CL CN CR))) (ckE w g (.exc CL ["value"] [d])) = some (.rt (.lst [.str "list", .str (py d).shown]) (ckE w g (.exc CL ["value"] [d]))) := by
  have n1 : (CL == CN) = false := beq_eq_false_iff_ne.mpr h.a
  have n2 : (CL == CR) = false := beq_eq_false_iff_ne.mpr h.b
  have n3 : (CN == CR) = false := beq_eq_false_iff_ne.mpr h.c
  have n4 : (CN == CL) = false := beq_eq_false_iff_ne.mpr (Ne.symm h.a)
  have n5 : (CR == CL) = false := beq_eq_false_iff_ne.mpr (Ne.symm h.b)
  have n6 : (CR == CN) = false := beq_eq_false_iff_ne.mpr (Ne.symm h.c)
  have vk : List.lookup ("value" : Str) [(("value" : Str), d)] = some d := by simp [List.lookup]
  have r := fun env => gRepr_of (env := env) (x := .d d) (d := d) rfl s.sw (by decide) (by decide)
  have ck : [CL, CN, CR].contains CL = true := by simp
  have e : lc2 CL CN CR (ckE w g (.exc CL ["value"] [d])) = some (.rt (.lst [.str "list", .str (py d).shown]) (ckE w g (.exc CL ["value"] [d]))) := by
    simp! only [lc2, ckE, fIsX, fIsXT, fXv, clsL, List.lookup, beq_self_eq_true, n1, n2, n3, n4, n5, n6, ck, vk, List.zip_cons_cons, List.zip_nil_right, r, (show (2 ≤ szL) = True by decide)]
  rw [seq_rt e]
theorem tail1 (h : Cs CL CN CR) (s : Bd d) : sSeq (lc2 CL CN CR) (sSeq (lc3 CL CN CR) (sSeq (lc4 CL CN CR) (lc5 CL CN CR))) (ckE w g (.exc CN ["value"] [d])) = some (.rt (.lst [.str "number", .str (py d).shown]) (ckE w g (.exc CN ["value"] [d]))) := by
  have n1 : (CL == CN) = false := beq_eq_false_iff_ne.mpr h.a
  have n2 : (CL == CR) = false := beq_eq_false_iff_ne.mpr h.b
  have n3 : (CN == CR) = false := beq_eq_false_iff_ne.mpr h.c
  have n4 : (CN == CL) = false := beq_eq_false_iff_ne.mpr (Ne.symm h.a)
  have n5 : (CR == CL) = false := beq_eq_false_iff_ne.mpr (Ne.symm h.b)
  have n6 : (CR == CN) = false := beq_eq_false_iff_ne.mpr (Ne.symm h.c)
  have vk : List.lookup ("value" : Str) [(("value" : Str), d)] = some d := by simp [List.lookup]
  have r := fun env => gRepr_of (env := env) (x := .d d) (d := d) rfl s.sw (by decide) (by decide)
  have ck : [CL, CN, CR].contains CN = true := by simp
  have s0 : lc2 CL CN CR (ckE w g (.exc CN ["value"] [d])) = some (.nx (ckE w g (.exc CN ["value"] [d]))) := by
    simp! only [lc2, ckE, fIsX, fIsXT, fXv, clsL, List.lookup, beq_self_eq_true, n1, n2, n3, n4, n5, n6, ck, vk, List.zip_cons_cons, List.zip_nil_right, r, (show (2 ≤ szL) = True by decide)]
  have e : lc3 CL CN CR (ckE w g (.exc CN ["value"] [d])) = some (.rt (.lst [.str "number", .str (py d).shown]) (ckE w g (.exc CN ["value"] [d]))) := by
    simp! only [lc3, ckE, fIsX, fIsXT, fXv, clsL, List.lookup, beq_self_eq_true, n1, n2, n3, n4, n5, n6, ck, vk, List.zip_cons_cons, List.zip_nil_right, r, (show (2 ≤ szL) = True by decide)]
  rw [seq_nx s0, seq_rt e]
theorem tail2 (h : Cs CL CN CR) (s : Bd d) : sSeq (lc2 CL CN CR) (sSeq (lc3 CL CN CR) (sSeq (lc4 CL CN CR) (lc5 CL CN CR))) (ckE w g (.exc CR ["value"] [d])) = some (.rt (.lst [.str "run", .str (py d).shown]) (ckE w g (.exc CR ["value"] [d]))) := by
  have n1 : (CL == CN) = false := beq_eq_false_iff_ne.mpr h.a
  have n2 : (CL == CR) = false := beq_eq_false_iff_ne.mpr h.b
  have n3 : (CN == CR) = false := beq_eq_false_iff_ne.mpr h.c
  have n4 : (CN == CL) = false := beq_eq_false_iff_ne.mpr (Ne.symm h.a)
  have n5 : (CR == CL) = false := beq_eq_false_iff_ne.mpr (Ne.symm h.b)
  have n6 : (CR == CN) = false := beq_eq_false_iff_ne.mpr (Ne.symm h.c)
  have vk : List.lookup ("value" : Str) [(("value" : Str), d)] = some d := by simp [List.lookup]
  have r := fun env => gRepr_of (env := env) (x := .d d) (d := d) rfl s.sw (by decide) (by decide)
  have ck : [CL, CN, CR].contains CR = true := by simp
  have s0 : lc2 CL CN CR (ckE w g (.exc CR ["value"] [d])) = some (.nx (ckE w g (.exc CR ["value"] [d]))) := by
    simp! only [lc2, ckE, fIsX, fIsXT, fXv, clsL, List.lookup, beq_self_eq_true, n1, n2, n3, n4, n5, n6, ck, vk, List.zip_cons_cons, List.zip_nil_right, r, (show (2 ≤ szL) = True by decide)]
  have s1 : lc3 CL CN CR (ckE w g (.exc CR ["value"] [d])) = some (.nx (ckE w g (.exc CR ["value"] [d]))) := by
    simp! only [lc3, ckE, fIsX, fIsXT, fXv, clsL, List.lookup, beq_self_eq_true, n1, n2, n3, n4, n5, n6, ck, vk, List.zip_cons_cons, List.zip_nil_right, r, (show (2 ≤ szL) = True by decide)]
  have e : lc4 CL CN CR (ckE w g (.exc CR ["value"] [d])) = some (.rt (.lst [.str "run", .str (py d).shown]) (ckE w g (.exc CR ["value"] [d]))) := by
    simp! only [lc4, ckE, fIsX, fIsXT, fXv, clsL, List.lookup, beq_self_eq_true, n1, n2, n3, n4, n5, n6, ck, vk, List.zip_cons_cons, List.zip_nil_right, r, (show (2 ≤ szL) = True by decide)]
  rw [seq_nx s0, seq_nx s1, seq_rt e]
theorem try0 {C : Addr} {a b c : Dv} (hC : [CL, CN, CR].contains C = true) (h : FX_least_run CL CN [a, b, c] = some (.error (C, ["value"], [d]))) : lc1 CL CN CR (ckE 0 [a, b, c] .non) = some (.nx (ckE 0 [a, b, c] (.exc C ["value"] [d]))) := by
  have a0 : atI [a, b, c] 0 = some a := rfl
  have a1 : atI [a, b, c] 1 = some b := rfl
  have a2 : atI [a, b, c] 2 = some c := rfl
  have q : (sIfX (fTest (fOp gEq (fVar 0) (fC (.int (0 : Int))))) (sDropX (fCallX 3 (FX_least_run CL CN) (fCons (fOp gIx (fVar 1) (fC (.int (0 : Int)))) (fCons (fOp gIx (fVar 1) (fC (.int (1 : Int)))) (fCons (fOp gIx (fVar 1) (fC (.int (2 : Int)))) fNil))))) (sDropX (fCallX 2 (FX_run_value CN CR) (fCons (fOp gIx (fVar 1) (fC (.int (0 : Int)))) (fCons (fOp gIx (fVar 1) (fC (.int (1 : Int)))) fNil))))) (ckE 0 [a, b, c] .non) = some (.ex (C, ["value"], [d]) (ckE 0 [a, b, c] .non)) := by
    have e := gEq_i (env := ckE 0 [a, b, c] .non) (x := .v 0) (y := .d (.int 0)) rfl rfl
    simp only [ckE] at e
    simp! only [ckE, sIfX, sDropX, fCallX, e, (show ((0 : Int) == 0) = true from rfl), a0, a1, a2, h]
  unfold lc1 sTry
  rw [q, Option.bind_some]
  dsimp only
  rw [if_pos ⟨hC, by decide, rfl⟩]
  rfl
theorem try1 {C : Addr} {a b : Dv} (hC : [CL, CN, CR].contains C = true) (h : FX_run_value CN CR [a, b] = some (.error (C, ["value"], [d]))) : lc1 CL CN CR (ckE 1 [a, b] .non) = some (.nx (ckE 1 [a, b] (.exc C ["value"] [d]))) := by
  have a0 : atI [a, b] 0 = some a := rfl
  have a1 : atI [a, b] 1 = some b := rfl
  have q : (sIfX (fTest (fOp gEq (fVar 0) (fC (.int (0 : Int))))) (sDropX (fCallX 3 (FX_least_run CL CN) (fCons (fOp gIx (fVar 1) (fC (.int (0 : Int)))) (fCons (fOp gIx (fVar 1) (fC (.int (1 : Int)))) (fCons (fOp gIx (fVar 1) (fC (.int (2 : Int)))) fNil))))) (sDropX (fCallX 2 (FX_run_value CN CR) (fCons (fOp gIx (fVar 1) (fC (.int (0 : Int)))) (fCons (fOp gIx (fVar 1) (fC (.int (1 : Int)))) fNil))))) (ckE 1 [a, b] .non) = some (.ex (C, ["value"], [d]) (ckE 1 [a, b] .non)) := by
    have e := gEq_i (env := ckE 1 [a, b] .non) (x := .v 0) (y := .d (.int 0)) rfl rfl
    simp only [ckE] at e
    simp! only [ckE, sIfX, sDropX, fCallX, e, (show ((1 : Int) == 0) = false from rfl), a0, a1, h]
  unfold lc1 sTry
  rw [q, Option.bind_some]
  dsimp only
  rw [if_pos ⟨hC, by decide, rfl⟩]
  rfl
theorem lc0_ok : lc0 CL CN CR [.dat (.int w), .dat (.lst g), .non, .non] = some (.nx (ckE w g .non)) := by
  simp! only [lc0, ckE]
theorem ct_st : ([Slot.dat (.int w), .dat (.lst g)] ++ List.replicate (4 - [Slot.dat (.int w), .dat (.lst g)].length) Slot.non) = [.dat (.int w), .dat (.lst g), .non, .non] := rfl
theorem ct0_0 {a b c : Dv} (h : Cs CL CN CR) (s : Bd d) (e : FX_least_run CL CN [a, b, c] = some (.error (CL, ["value"], [d]))) : F_law_caught CL CN CR [.dat (.int 0), .dat (.lst [a, b, c])] = some (.lst [.str "list", .str (py d).shown], []) := by
  unfold F_law_caught runDef
  rw [ct_st, lc_all, seq_nx lc0_ok, seq_nx (try0 (by simp) e), tail0 h s]
  rfl
theorem ct0_1 {a b c : Dv} (h : Cs CL CN CR) (s : Bd d) (e : FX_least_run CL CN [a, b, c] = some (.error (CN, ["value"], [d]))) : F_law_caught CL CN CR [.dat (.int 0), .dat (.lst [a, b, c])] = some (.lst [.str "number", .str (py d).shown], []) := by
  unfold F_law_caught runDef
  rw [ct_st, lc_all, seq_nx lc0_ok, seq_nx (try0 (by simp) e), tail1 h s]
  rfl
theorem ct1_1 {a b : Dv} (h : Cs CL CN CR) (s : Bd d) (e : FX_run_value CN CR [a, b] = some (.error (CN, ["value"], [d]))) : F_law_caught CL CN CR [.dat (.int 1), .dat (.lst [a, b])] = some (.lst [.str "number", .str (py d).shown], []) := by
  unfold F_law_caught runDef
  rw [ct_st, lc_all, seq_nx lc0_ok, seq_nx (try1 (by simp) e), tail1 h s]
  rfl
theorem ct1_2 {a b : Dv} (h : Cs CL CN CR) (s : Bd d) (e : FX_run_value CN CR [a, b] = some (.error (CR, ["value"], [d]))) : F_law_caught CL CN CR [.dat (.int 1), .dat (.lst [a, b])] = some (.lst [.str "run", .str (py d).shown], []) := by
  unfold F_law_caught runDef
  rw [ct_st, lc_all, seq_nx lc0_ok, seq_nx (try1 (by simp) e), tail2 h s]
  rfl
theorem seqX_nx2 {f g : SX} {e e' : DEnv} (h : f e = some (.ok (.nx e'))) : sSeqX f g e = g e' := seqX_nx h
theorem least_bad1 {b c : Dv} (h : F_are_worths [.dat d] = some (.bl false, [])) : FX_least_run CL CN [d, b, c] = some (.error (CL, ["value"], [d])) := by
  simp! only [FX_least_run, runX, gX_least_run, sSeqX, sIfX, sOk, sRaise, h]
theorem least_bad2 {a c : Dv} (h1 : F_are_worths [.dat a] = some (.bl true, [])) (h : F_is_worth [.dat d] = some (.bl false, [])) : FX_least_run CL CN [a, d, c] = some (.error (CN, ["value"], [d])) := by
  simp! only [FX_least_run, runX, gX_least_run, sSeqX, sIfX, sOk, sRaise, h1, h]
theorem least_bad3 {a b : Dv} (h1 : F_are_worths [.dat a] = some (.bl true, [])) (h2 : F_is_worth [.dat b] = some (.bl true, [])) (h : F_is_slope [.dat b, .dat d] = some (.bl false, [])) : FX_least_run CL CN [a, b, d] = some (.error (CN, ["value"], [d])) := by
  simp! only [FX_least_run, runX, gX_least_run, sSeqX, sIfX, sOk, sRaise, h1, h2, h]
theorem value_bad1 {b : Dv} (h : F_is_run [.dat d] = some (.bl false, [])) : FX_run_value CN CR [d, b] = some (.error (CR, ["value"], [d])) := by
  have e := check_run_bad (C := CR) h
  simp! only [FX_run_value, runX, gX_run_value, sSeqX, sDropX, fCallX, sOk, e]
theorem value_bad2 {a : Dv} (h0 : FX_check_run CR [a] = some (.ok .non)) (h : F_is_between [.dat d, .dat (.int 0), .dat .non] = some (.bl false, [])) : FX_run_value CN CR [a, d] = some (.error (CN, ["value"], [d])) := by
  have e : FX_check_number CN [d, .int 0, .non] = some (.error (CN, ["value"], [d])) := by
    simp! only [FX_check_number, runX, gX_check_number, sIfX, sOk, sRaise, h]
  simp! only [FX_run_value, runX, gX_run_value, sSeqX, sDropX, fCallX, sOk, h0, e]
end Law

set_option Elab.async false
set_option linter.all false
set_option maxRecDepth 100000
set_option maxHeartbeats 8000000
set_option exponentiation.threshold 2000
namespace Law
open PySem L2 DL
noncomputable def lf0b (CL : Addr) (CN : Addr) (CR : Addr) : SF := (sIf (fTest (fOp gNe (fCall 2 none (F_law_caught CL CN CR) (fCons (fC (.int (0 : Int))) (fCons (fLst' (fCons (fVar 0) (fCons (fC (.str "a")) (fCons (fC (.str "b")) fNil)))) fNil))) (fLst' (fCons (fC (.str "list")) (fCons (fCB (g1 gRepr) (fCons (fVar 0) fNil)) fNil))))) (sRet (fC (.bl false))) sNext)
noncomputable def lf0 (CL : Addr) (CN : Addr) (CR : Addr) : SF := (sFor (fSeqIt (fLst' (fCons (fC .non) (fCons (fTup' fNil) (fCons (fTup' (fCons (fC (.int (1 : Int))) fNil)) (fCons (fC (.str "1")) (fCons (fLst' (fCons (fC (.bl true)) fNil)) (fCons (fLst' (fCons (fC (.str "1")) fNil)) (fCons (fLst' (fCons (fLst' (fCons (fC (.int (1 : Int))) fNil)) fNil)) (fCons (fLst' (fCons (fC (.int (1 : Int))) (fCons (fC .non) (fCons (fTup' (fCons (fC (.int (2 : Int))) fNil)) fNil)))) (fCons (fC (.int (5 : Int))) fNil))))))))))) (fName 0) (lf0b CL CN CR))
noncomputable def lf1b (CL : Addr) (CN : Addr) (CR : Addr) : SF := (sIf (fTest (fOp gNe (fCall 2 none (F_law_caught CL CN CR) (fCons (fC (.int (0 : Int))) (fCons (fLst' (fCons (fLst' (fCons (fC (.int (1 : Int))) (fCons (fC .non) fNil))) (fCons (fVar 0) (fCons (fC (.str "b")) fNil)))) fNil))) (fLst' (fCons (fC (.str "number")) (fCons (fCB (g1 gRepr) (fCons (fVar 0) fNil)) fNil))))) (sRet (fC (.bl false))) sNext)
noncomputable def lf1 (CL : Addr) (CN : Addr) (CR : Addr) : SF := (sFor (fSeqIt (fLst' (fCons (fC (.str "1")) (fCons (fC (.bl true)) (fCons (fLst' (fCons (fC (.int (1 : Int))) fNil)) (fCons (fTup' (fCons (fC (.int (1 : Int))) fNil)) (fCons (fLst' (fCons (fC .non) fNil)) fNil))))))) (fName 0) (lf1b CL CN CR))
noncomputable def lf2b (CL : Addr) (CN : Addr) (CR : Addr) : SF := (sIf (fTest (fOp gNe (fCall 2 none (F_law_caught CL CN CR) (fCons (fC (.int (0 : Int))) (fCons (fLst' (fCons (fLst' (fCons (fC (.int (1 : Int))) fNil)) (fCons (fC (.int (3 : Int))) (fCons (fVar 0) fNil)))) fNil))) (fLst' (fCons (fC (.str "number")) (fCons (fCB (g1 gRepr) (fCons (fVar 0) fNil)) fNil))))) (sRet (fC (.bl false))) sNext)
noncomputable def lf2 (CL : Addr) (CN : Addr) (CR : Addr) : SF := (sFor (fSeqIt (fLst' (fCons (fC .non) (fCons (fC (.str "1")) (fCons (fC (.bl false)) (fCons (fLst' (fCons (fC (.int (1 : Int))) fNil)) fNil)))))) (fName 0) (lf2b CL CN CR))
noncomputable def lf3b (CL : Addr) (CN : Addr) (CR : Addr) : SF := (sIf (fTest (fOp gNe (fCall 2 none (F_law_caught CL CN CR) (fCons (fC (.int (0 : Int))) (fCons (fLst' (fCons (fLst' (fCons (fC (.int (1 : Int))) fNil)) (fCons (fC .non) (fCons (fVar 0) fNil)))) fNil))) (fLst' (fCons (fC (.str "number")) (fCons (fCB (g1 gRepr) (fCons (fVar 0) fNil)) fNil))))) (sRet (fC (.bl false))) sNext)
noncomputable def lf3 (CL : Addr) (CN : Addr) (CR : Addr) : SF := (sFor (fSeqIt (fLst' (fCons (fC (.int (1 : Int))) (fCons (fUn gNeg (fC (.int (1 : Int)))) (fCons (fC .non) (fCons (fC (.bl true)) (fCons (fC (.bl false)) fNil))))))) (fName 0) (lf3b CL CN CR))
noncomputable def lf4 (CL : Addr) (CN : Addr) (CR : Addr) : SF := (sAsg (fLst' (fCons (fC .non) (fCons (fC (.int (7 : Int))) (fCons (fLst' fNil) (fCons (fTup' (fCons (fLst' fNil) (fCons (fC (.int (1 : Int))) fNil))) (fCons (fTup' (fCons (fLst' fNil) (fCons (fC (.int (1 : Int))) (fCons (fC (.int (0 : Int))) (fCons (fC (.int (0 : Int))) fNil))))) (fCons (fLst' (fCons (fLst' fNil) (fCons (fC (.int (1 : Int))) (fCons (fC (.int (0 : Int))) fNil)))) (fCons (fTup' (fCons (fTup' fNil) (fCons (fC (.int (1 : Int))) (fCons (fC (.int (0 : Int))) fNil)))) (fCons (fTup' (fCons (fLst' fNil) (fCons (fC (.bl true)) (fCons (fC (.int (0 : Int))) fNil)))) (fCons (fTup' (fCons (fLst' fNil) (fCons (fC (.int (1 : Int))) (fCons (fC (.bl false)) fNil)))) (fCons (fTup' (fCons (fLst' fNil) (fCons (fC .non) (fCons (fC (.int (1 : Int))) fNil)))) fNil))))))))))) (fName 1))
noncomputable def lf5b (CL : Addr) (CN : Addr) (CR : Addr) : SF := (sIf (fOr (fTest (fOp (gIs true) (fCall 1 none F_is_run (fCons (fVar 0) fNil)) (fC (.bl false)))) (fTest (fOp gNe (fCall 2 none (F_law_caught CL CN CR) (fCons (fC (.int (1 : Int))) (fCons (fLst' (fCons (fVar 0) (fCons (fC .non) fNil))) fNil))) (fLst' (fCons (fC (.str "run")) (fCons (fCB (g1 gRepr) (fCons (fVar 0) fNil)) fNil)))))) (sRet (fC (.bl false))) sNext)
noncomputable def lf5 (CL : Addr) (CN : Addr) (CR : Addr) : SF := (sFor (fSeqIt (fOp gAdd (fVar 1) (fLst' (fCons (fTup' (fCons (fLst' fNil) (fCons (fC .non) (fCons (fC (.bl false)) fNil)))) (fCons (fTup' (fCons (fLst' (fCons (fC (.bl true)) fNil)) (fCons (fC (.int (4 : Int))) (fCons (fC (.int (0 : Int))) fNil)))) (fCons (fTup' (fCons (fLst' (fCons (fC .non) fNil)) (fCons (fC .non) (fCons (fC (.int (0 : Int))) fNil)))) (fCons (fTup' (fCons (fLst' (fCons (fC (.int (2 : Int))) (fCons (fC (.int (1 : Int))) fNil))) (fCons (fC (.int (4 : Int))) (fCons (fC (.int (3 : Int))) fNil)))) (fCons (fTup' (fCons (fLst' (fCons (fC (.int (0 : Int))) fNil)) (fCons (fC (.int (0 : Int))) (fCons (fC (.int (0 : Int))) fNil)))) (fCons (fTup' (fCons (fC (.str "ab")) (fCons (fC (.int (1 : Int))) (fCons (fC (.int (2 : Int))) fNil)))) fNil))))))))) (fName 0) (lf5b CL CN CR))
noncomputable def lf6b (CL : Addr) (CN : Addr) (CR : Addr) : SF := (sIf (fTest (fOp gNe (fCall 2 none (F_law_caught CL CN CR) (fCons (fC (.int (1 : Int))) (fCons (fLst' (fCons (fTup' (fCons (fLst' (fCons (fC .non) (fCons (fC (.int (5 : Int))) fNil))) (fCons (fC (.int (4 : Int))) (fCons (fUn gNeg (fC (.int (2 : Int)))) fNil)))) (fCons (fVar 0) fNil))) fNil))) (fLst' (fCons (fC (.str "number")) (fCons (fCB (g1 gRepr) (fCons (fVar 0) fNil)) fNil))))) (sRet (fC (.bl false))) sNext)
noncomputable def lf6 (CL : Addr) (CN : Addr) (CR : Addr) : SF := (sFor (fSeqIt (fLst' (fCons (fC .non) (fCons (fUn gNeg (fC (.int (1 : Int)))) (fCons (fC (.bl true)) (fCons (fC (.str "0")) (fCons (fLst' (fCons (fC (.int (0 : Int))) fNil)) fNil))))))) (fName 0) (lf6b CL CN CR))
noncomputable def lf7 (CL : Addr) (CN : Addr) (CR : Addr) : SF := (sRet (fC (.bl true)))
theorem lf_all {CL : Addr} {CN : Addr} {CR : Addr} : g_law_refused CL CN CR = (sSeq (lf0 CL CN CR) (sSeq (lf1 CL CN CR) (sSeq (lf2 CL CN CR) (sSeq (lf3 CL CN CR) (sSeq (lf4 CL CN CR) (sSeq (lf5 CL CN CR) (sSeq (lf6 CL CN CR) (lf7 CL CN CR)))))))) := rfl
variable {CL CN CR : Addr}
def Z0 (x : Slot) : Prop := x = .non ∨ ∃ d, x = .dat d
theorem rf_loop {gb : SF} {x1 : Slot} : ∀ (l : List Dv) (x0 : Slot), Z0 x0 → (∀ d ∈ l, gb [.dat d, x1] = some (.nx [.dat d, x1])) → ∃ y0, Z0 y0 ∧ loopF (fName 0) gb l [x0, x1] = some (.nx [y0, x1])
  | [], x0, z, _ => ⟨x0, z, rfl⟩
  | d :: l, x0, z, h => by
    obtain ⟨y0, zy, q⟩ := rf_loop l (.dat d) (.inr ⟨d, rfl⟩) (fun e he => h e (List.mem_cons_of_mem _ he))
    refine ⟨y0, zy, ?_⟩
    have f : fName 0 d [x0, x1] = some [.dat d, x1] := by rcases z with rfl | ⟨i, rfl⟩ <;> rfl
    rw [e_loop1, f, Option.bind_some, h d List.mem_cons_self, Option.bind_some]
    exact q
theorem for_go {fi : IF} {gb : SF} {x0 x1 : Slot} {l : List Dv} (e : fi [x0, x1] = some (l, [x0, x1])) (z : Z0 x0) (h : ∀ d ∈ l, gb [.dat d, x1] = some (.nx [.dat d, x1])) : ∃ y0, Z0 y0 ∧ sFor fi (fName 0) gb [x0, x1] = some (.nx [y0, x1]) := by
  obtain ⟨y0, zy, q⟩ := rf_loop l x0 z h
  refine ⟨y0, zy, ?_⟩
  unfold sFor
  rw [e, Option.bind_some]
  exact q
theorem tL : TXT "list" := by unfold TXT; decide +kernel
theorem tN : TXT "number" := by unfold TXT; decide +kernel
theorem tR : TXT "run" := by unfold TXT; decide +kernel
theorem bd0 : Bd (.non) := ⟨⟨by decide +kernel, ⟨by decide +kernel, by decide +kernel⟩, by decide +kernel⟩, by unfold TXT; decide +kernel⟩
theorem bd1 : Bd (.tup []) := ⟨⟨by decide +kernel, ⟨by decide +kernel, by decide +kernel⟩, by decide +kernel⟩, by unfold TXT; decide +kernel⟩
theorem bd2 : Bd (.tup [.int 1]) := ⟨⟨by decide +kernel, ⟨by decide +kernel, by decide +kernel⟩, by decide +kernel⟩, by unfold TXT; decide +kernel⟩
theorem bd3 : Bd (.str "1") := ⟨⟨by decide +kernel, ⟨by decide +kernel, by decide +kernel⟩, by decide +kernel⟩, by unfold TXT; decide +kernel⟩
theorem bd4 : Bd (.lst [.bl true]) := ⟨⟨by decide +kernel, ⟨by decide +kernel, by decide +kernel⟩, by decide +kernel⟩, by unfold TXT; decide +kernel⟩
theorem bd5 : Bd (.lst [.str "1"]) := ⟨⟨by decide +kernel, ⟨by decide +kernel, by decide +kernel⟩, by decide +kernel⟩, by unfold TXT; decide +kernel⟩
theorem bd6 : Bd (.lst [.lst [.int 1]]) := ⟨⟨by decide +kernel, ⟨by decide +kernel, by decide +kernel⟩, by decide +kernel⟩, by unfold TXT; decide +kernel⟩
theorem bd7 : Bd (.lst [.int 1, .non, .tup [.int 2]]) := ⟨⟨by decide +kernel, ⟨by decide +kernel, by decide +kernel⟩, by decide +kernel⟩, by unfold TXT; decide +kernel⟩
theorem bd8 : Bd (.int 5) := ⟨⟨by decide +kernel, ⟨by decide +kernel, by decide +kernel⟩, by decide +kernel⟩, by unfold TXT; decide +kernel⟩
theorem bd9 : Bd (.bl true) := ⟨⟨by decide +kernel, ⟨by decide +kernel, by decide +kernel⟩, by decide +kernel⟩, by unfold TXT; decide +kernel⟩
theorem bd10 : Bd (.lst [.int 1]) := ⟨⟨by decide +kernel, ⟨by decide +kernel, by decide +kernel⟩, by decide +kernel⟩, by unfold TXT; decide +kernel⟩
theorem bd11 : Bd (.lst [.non]) := ⟨⟨by decide +kernel, ⟨by decide +kernel, by decide +kernel⟩, by decide +kernel⟩, by unfold TXT; decide +kernel⟩
theorem bd12 : Bd (.bl false) := ⟨⟨by decide +kernel, ⟨by decide +kernel, by decide +kernel⟩, by decide +kernel⟩, by unfold TXT; decide +kernel⟩
theorem bd13 : Bd (.int 1) := ⟨⟨by decide +kernel, ⟨by decide +kernel, by decide +kernel⟩, by decide +kernel⟩, by unfold TXT; decide +kernel⟩
theorem bd14 : Bd (.int (-1)) := ⟨⟨by decide +kernel, ⟨by decide +kernel, by decide +kernel⟩, by decide +kernel⟩, by unfold TXT; decide +kernel⟩
theorem bd15 : Bd (.int 7) := ⟨⟨by decide +kernel, ⟨by decide +kernel, by decide +kernel⟩, by decide +kernel⟩, by unfold TXT; decide +kernel⟩
theorem bd16 : Bd (.lst []) := ⟨⟨by decide +kernel, ⟨by decide +kernel, by decide +kernel⟩, by decide +kernel⟩, by unfold TXT; decide +kernel⟩
theorem bd17 : Bd (.tup [.lst [], .int 1]) := ⟨⟨by decide +kernel, ⟨by decide +kernel, by decide +kernel⟩, by decide +kernel⟩, by unfold TXT; decide +kernel⟩
theorem bd18 : Bd (.tup [.lst [], .int 1, .int 0, .int 0]) := ⟨⟨by decide +kernel, ⟨by decide +kernel, by decide +kernel⟩, by decide +kernel⟩, by unfold TXT; decide +kernel⟩
theorem bd19 : Bd (.lst [.lst [], .int 1, .int 0]) := ⟨⟨by decide +kernel, ⟨by decide +kernel, by decide +kernel⟩, by decide +kernel⟩, by unfold TXT; decide +kernel⟩
theorem bd20 : Bd (.tup [.tup [], .int 1, .int 0]) := ⟨⟨by decide +kernel, ⟨by decide +kernel, by decide +kernel⟩, by decide +kernel⟩, by unfold TXT; decide +kernel⟩
theorem bd21 : Bd (.tup [.lst [], .bl true, .int 0]) := ⟨⟨by decide +kernel, ⟨by decide +kernel, by decide +kernel⟩, by decide +kernel⟩, by unfold TXT; decide +kernel⟩
theorem bd22 : Bd (.tup [.lst [], .int 1, .bl false]) := ⟨⟨by decide +kernel, ⟨by decide +kernel, by decide +kernel⟩, by decide +kernel⟩, by unfold TXT; decide +kernel⟩
theorem bd23 : Bd (.tup [.lst [], .non, .int 1]) := ⟨⟨by decide +kernel, ⟨by decide +kernel, by decide +kernel⟩, by decide +kernel⟩, by unfold TXT; decide +kernel⟩
theorem bd24 : Bd (.tup [.lst [], .non, .bl false]) := ⟨⟨by decide +kernel, ⟨by decide +kernel, by decide +kernel⟩, by decide +kernel⟩, by unfold TXT; decide +kernel⟩
theorem bd25 : Bd (.tup [.lst [.bl true], .int 4, .int 0]) := ⟨⟨by decide +kernel, ⟨by decide +kernel, by decide +kernel⟩, by decide +kernel⟩, by unfold TXT; decide +kernel⟩
theorem bd26 : Bd (.tup [.lst [.non], .non, .int 0]) := ⟨⟨by decide +kernel, ⟨by decide +kernel, by decide +kernel⟩, by decide +kernel⟩, by unfold TXT; decide +kernel⟩
theorem bd27 : Bd (.tup [.lst [.int 2, .int 1], .int 4, .int 3]) := ⟨⟨by decide +kernel, ⟨by decide +kernel, by decide +kernel⟩, by decide +kernel⟩, by unfold TXT; decide +kernel⟩
theorem bd28 : Bd (.tup [.lst [.int 0], .int 0, .int 0]) := ⟨⟨by decide +kernel, ⟨by decide +kernel, by decide +kernel⟩, by decide +kernel⟩, by unfold TXT; decide +kernel⟩
theorem bd29 : Bd (.tup [.str "ab", .int 1, .int 2]) := ⟨⟨by decide +kernel, ⟨by decide +kernel, by decide +kernel⟩, by decide +kernel⟩, by unfold TXT; decide +kernel⟩
theorem bd30 : Bd (.str "0") := ⟨⟨by decide +kernel, ⟨by decide +kernel, by decide +kernel⟩, by decide +kernel⟩, by unfold TXT; decide +kernel⟩
theorem bd31 : Bd (.lst [.int 0]) := ⟨⟨by decide +kernel, ⟨by decide +kernel, by decide +kernel⟩, by decide +kernel⟩, by unfold TXT; decide +kernel⟩
theorem lf0b_ok {d : Dv} {x1 : Slot} (s : Bd d) (c : F_law_caught CL CN CR [.dat (.int 0), .dat (.lst [d, .str "a", .str "b"])] = some (.lst [.str "list", .str (py d).shown], [])) : lf0b CL CN CR [.dat d, x1] = some (.nx [.dat d, x1]) := by
  have r := gRepr_of (env := [.dat d, x1]) (x := .v 0) (d := d) rfl s.sw (by decide) (by decide)
  have n := fun env => ne_two (env := env) tL s.tx
  simp! only [lf0b, (show (0 ≤ szL) = True by decide), (show (1 ≤ szL) = True by decide), (show (2 ≤ szL) = True by decide), (show (3 ≤ szL) = True by decide), (show (4 ≤ szL) = True by decide), neg1, c, r, n]
theorem lf1b_ok {d : Dv} {x1 : Slot} (s : Bd d) (c : F_law_caught CL CN CR [.dat (.int 0), .dat (.lst [.lst [.int 1, .non], d, .str "b"])] = some (.lst [.str "number", .str (py d).shown], [])) : lf1b CL CN CR [.dat d, x1] = some (.nx [.dat d, x1]) := by
  have r := gRepr_of (env := [.dat d, x1]) (x := .v 0) (d := d) rfl s.sw (by decide) (by decide)
  have n := fun env => ne_two (env := env) tN s.tx
  simp! only [lf1b, (show (0 ≤ szL) = True by decide), (show (1 ≤ szL) = True by decide), (show (2 ≤ szL) = True by decide), (show (3 ≤ szL) = True by decide), (show (4 ≤ szL) = True by decide), neg1, c, r, n]
theorem lf2b_ok {d : Dv} {x1 : Slot} (s : Bd d) (c : F_law_caught CL CN CR [.dat (.int 0), .dat (.lst [.lst [.int 1], .int 3, d])] = some (.lst [.str "number", .str (py d).shown], [])) : lf2b CL CN CR [.dat d, x1] = some (.nx [.dat d, x1]) := by
  have r := gRepr_of (env := [.dat d, x1]) (x := .v 0) (d := d) rfl s.sw (by decide) (by decide)
  have n := fun env => ne_two (env := env) tN s.tx
  simp! only [lf2b, (show (0 ≤ szL) = True by decide), (show (1 ≤ szL) = True by decide), (show (2 ≤ szL) = True by decide), (show (3 ≤ szL) = True by decide), (show (4 ≤ szL) = True by decide), neg1, c, r, n]
theorem lf3b_ok {d : Dv} {x1 : Slot} (s : Bd d) (c : F_law_caught CL CN CR [.dat (.int 0), .dat (.lst [.lst [.int 1], .non, d])] = some (.lst [.str "number", .str (py d).shown], [])) : lf3b CL CN CR [.dat d, x1] = some (.nx [.dat d, x1]) := by
  have r := gRepr_of (env := [.dat d, x1]) (x := .v 0) (d := d) rfl s.sw (by decide) (by decide)
  have n := fun env => ne_two (env := env) tN s.tx
  simp! only [lf3b, (show (0 ≤ szL) = True by decide), (show (1 ≤ szL) = True by decide), (show (2 ≤ szL) = True by decide), (show (3 ≤ szL) = True by decide), (show (4 ≤ szL) = True by decide), neg1, c, r, n]
theorem lf6b_ok {d : Dv} {x1 : Slot} (s : Bd d) (c : F_law_caught CL CN CR [.dat (.int 1), .dat (.lst [.tup [.lst [.non, .int 5], .int 4, .int (-2)], d])] = some (.lst [.str "number", .str (py d).shown], [])) : lf6b CL CN CR [.dat d, x1] = some (.nx [.dat d, x1]) := by
  have r := gRepr_of (env := [.dat d, x1]) (x := .v 0) (d := d) rfl s.sw (by decide) (by decide)
  have n := fun env => ne_two (env := env) tN s.tx
  simp! only [lf6b, (show (0 ≤ szL) = True by decide), (show (1 ≤ szL) = True by decide), (show (2 ≤ szL) = True by decide), (show (3 ≤ szL) = True by decide), (show (4 ≤ szL) = True by decide), neg1, c, r, n]
theorem lf5b_ok {d : Dv} {x1 : Slot} (s : Bd d) (ir : F_is_run [.dat d] = some (.bl false, [])) (c : F_law_caught CL CN CR [.dat (.int 1), .dat (.lst [d, .non])] = some (.lst [.str "run", .str (py d).shown], [])) : lf5b CL CN CR [.dat d, x1] = some (.nx [.dat d, x1]) := by
  have r := gRepr_of (env := [.dat d, x1]) (x := .v 0) (d := d) rfl s.sw (by decide) (by decide)
  have n := fun env => ne_two (env := env) tR s.tx
  simp! only [lf5b, (show (0 ≤ szL) = True by decide), (show (1 ≤ szL) = True by decide), (show (2 ≤ szL) = True by decide), (show (3 ≤ szL) = True by decide), (show (4 ≤ szL) = True by decide), ir, c, r, n, Bool.true_xor, Bool.not_true, Bool.not_false, Bool.xor_false, Bool.xor_true, beq_self_eq_true]
theorem run_bad_a {a b c : Dv} (h : F_are_worths [.dat a] = some (.bl false, [])) : F_is_run [.dat (.tup [a, b, c])] = some (.bl false, []) := by
  simp! only [F_is_run, g_is_run, isIt, gNe_id, c33, h]
theorem run_bad_b {a b c : Dv} (h1 : F_are_worths [.dat a] = some (.bl true, [])) (h : F_is_worth [.dat b] = some (.bl false, [])) : F_is_run [.dat (.tup [a, b, c])] = some (.bl false, []) := by
  simp! only [F_is_run, g_is_run, isIt, gNe_id, c33, h1, h]
theorem run_bad_c {a b c : Dv} (h1 : F_are_worths [.dat a] = some (.bl true, [])) (h2 : F_is_worth [.dat b] = some (.bl true, [])) (h : F_is_slope [.dat b, .dat c] = some (.bl false, [])) : F_is_run [.dat (.tup [a, b, c])] = some (.bl false, []) := by
  simp! only [F_is_run, g_is_run, isIt, gNe_id, c33, h1, h2, h]
theorem wr0 : F_are_worths [.dat (.non)] = some (.bl false, []) := by
  simp! only [F_are_worths, g_are_worths, isIt]
theorem wr1 : F_are_worths [.dat (.tup [])] = some (.bl false, []) := by
  simp! only [F_are_worths, g_are_worths, isIt]
theorem wr2 : F_are_worths [.dat (.tup [.int 1])] = some (.bl false, []) := by
  simp! only [F_are_worths, g_are_worths, isIt]
theorem wr3 : F_are_worths [.dat (.str "1")] = some (.bl false, []) := by
  simp! only [F_are_worths, g_are_worths, isIt]
theorem wr4 : F_are_worths [.dat (.lst [.bl true])] = some (.bl false, []) := by
  exact worths_ok (ds := [.bl true]) (fun d hd => by
    simp only [List.mem_cons, List.not_mem_nil, or_false] at hd
    rcases hd with rfl <;> exact ⟨rfl, by decide +kernel, by decide +kernel⟩) (by decide)
theorem wr5 : F_are_worths [.dat (.lst [.str "1"])] = some (.bl false, []) := by
  exact worths_ok (ds := [.str "1"]) (fun d hd => by
    simp only [List.mem_cons, List.not_mem_nil, or_false] at hd
    rcases hd with rfl <;> exact ⟨rfl, by decide +kernel, by decide +kernel⟩) (by decide)
theorem wr6 : F_are_worths [.dat (.lst [.lst [.int 1]])] = some (.bl false, []) := by
  exact worths_ok (ds := [.lst [.int 1]]) (fun d hd => by
    simp only [List.mem_cons, List.not_mem_nil, or_false] at hd
    rcases hd with rfl <;> exact ⟨rfl, by decide +kernel, by decide +kernel⟩) (by decide)
theorem wr7 : F_are_worths [.dat (.lst [.int 1, .non, .tup [.int 2]])] = some (.bl false, []) := by
  exact worths_ok (ds := [.int 1, .non, .tup [.int 2]]) (fun d hd => by
    simp only [List.mem_cons, List.not_mem_nil, or_false] at hd
    rcases hd with rfl | rfl | rfl <;> exact ⟨rfl, by decide +kernel, by decide +kernel⟩) (by decide)
theorem wr8 : F_are_worths [.dat (.int 5)] = some (.bl false, []) := by
  simp! only [F_are_worths, g_are_worths, isIt]
theorem wr9 : F_are_worths [.dat (.lst [.int 1, .non])] = some (.bl true, []) := by
  exact worths_ok (ds := [.int 1, .non]) (fun d hd => by
    simp only [List.mem_cons, List.not_mem_nil, or_false] at hd
    rcases hd with rfl | rfl <;> exact ⟨rfl, by decide +kernel, by decide +kernel⟩) (by decide)
theorem wr10 : F_are_worths [.dat (.lst [.int 1])] = some (.bl true, []) := by
  exact worths_ok (ds := [.int 1]) (fun d hd => by
    simp only [List.mem_cons, List.not_mem_nil, or_false] at hd
    rcases hd with rfl <;> exact ⟨rfl, by decide +kernel, by decide +kernel⟩) (by decide)
theorem sp0 : F_is_slope [.dat (.int 3), .dat (.non)] = some (.bl false, []) := by
  have w := whole_ok (d := .non) rfl
  simp! only [F_is_slope, g_is_slope, w, isW, isNon, Bool.true_xor, Bool.not_true, Bool.not_false, Bool.xor_false, Bool.xor_true]
theorem sp1 : F_is_slope [.dat (.int 3), .dat (.str "1")] = some (.bl false, []) := by
  have w := whole_ok (d := .str "1") rfl
  simp! only [F_is_slope, g_is_slope, w, isW, isNon, Bool.true_xor, Bool.not_true, Bool.not_false, Bool.xor_false, Bool.xor_true]
theorem sp2 : F_is_slope [.dat (.int 3), .dat (.bl false)] = some (.bl false, []) := by
  have w := whole_ok (d := .bl false) rfl
  simp! only [F_is_slope, g_is_slope, w, isW, isNon, Bool.true_xor, Bool.not_true, Bool.not_false, Bool.xor_false, Bool.xor_true]
theorem sp3 : F_is_slope [.dat (.int 3), .dat (.lst [.int 1])] = some (.bl false, []) := by
  have w := whole_ok (d := .lst [.int 1]) rfl
  simp! only [F_is_slope, g_is_slope, w, isW, isNon, Bool.true_xor, Bool.not_true, Bool.not_false, Bool.xor_false, Bool.xor_true]
theorem sp4 : F_is_slope [.dat (.non), .dat (.int 1)] = some (.bl false, []) := by
  exact slope_ok none 1
theorem sp5 : F_is_slope [.dat (.non), .dat (.int (-1))] = some (.bl false, []) := by
  exact slope_ok none (-1)
theorem sp6 : F_is_slope [.dat (.non), .dat (.non)] = some (.bl false, []) := by
  have w := whole_ok (d := .non) rfl
  simp! only [F_is_slope, g_is_slope, w, isW, isNon, Bool.true_xor, Bool.not_true, Bool.not_false, Bool.xor_false, Bool.xor_true]
theorem sp7 : F_is_slope [.dat (.non), .dat (.bl true)] = some (.bl false, []) := by
  have w := whole_ok (d := .bl true) rfl
  simp! only [F_is_slope, g_is_slope, w, isW, isNon, Bool.true_xor, Bool.not_true, Bool.not_false, Bool.xor_false, Bool.xor_true]
theorem sp8 : F_is_slope [.dat (.non), .dat (.bl false)] = some (.bl false, []) := by
  have w := whole_ok (d := .bl false) rfl
  simp! only [F_is_slope, g_is_slope, w, isW, isNon, Bool.true_xor, Bool.not_true, Bool.not_false, Bool.xor_false, Bool.xor_true]
theorem ir0 : F_is_run [.dat (.non)] = some (.bl false, []) := by
  simp! only [F_is_run, g_is_run, isIt]
theorem ir1 : F_is_run [.dat (.int 7)] = some (.bl false, []) := by
  simp! only [F_is_run, g_is_run, isIt]
theorem ir2 : F_is_run [.dat (.lst [])] = some (.bl false, []) := by
  simp! only [F_is_run, g_is_run, isIt]
theorem ir3 : F_is_run [.dat (.tup [.lst [], .int 1])] = some (.bl false, []) := by
  simp! only [F_is_run, g_is_run, isIt, gNe_id, List.length_cons, List.length_nil, (show (((0 + 1 + 1 : Nat) : Int) == 3) = false from rfl), (show (((0 + 1 + 1 + 1 + 1 : Nat) : Int) == 3) = false from rfl), (show (((2 : Nat) : Int) == 3) = false from rfl), (show (((4 : Nat) : Int) == 3) = false from rfl), (show (((1 + 1 : Nat) : Int) == 3) = false from rfl)]
theorem ir4 : F_is_run [.dat (.tup [.lst [], .int 1, .int 0, .int 0])] = some (.bl false, []) := by
  simp! only [F_is_run, g_is_run, isIt, gNe_id, List.length_cons, List.length_nil, (show (((0 + 1 + 1 : Nat) : Int) == 3) = false from rfl), (show (((0 + 1 + 1 + 1 + 1 : Nat) : Int) == 3) = false from rfl), (show (((2 : Nat) : Int) == 3) = false from rfl), (show (((4 : Nat) : Int) == 3) = false from rfl), (show (((1 + 1 : Nat) : Int) == 3) = false from rfl)]
theorem ir5 : F_is_run [.dat (.lst [.lst [], .int 1, .int 0])] = some (.bl false, []) := by
  simp! only [F_is_run, g_is_run, isIt]
theorem ir6 : F_is_run [.dat (.tup [.tup [], .int 1, .int 0])] = some (.bl false, []) := run_bad_a wr1
theorem wr11 : F_are_worths [.dat (.lst [])] = some (.bl true, []) := by
  exact worths_ok (ds := []) (fun d hd => by
    cases hd) (by decide)
theorem ir7 : F_is_run [.dat (.tup [.lst [], .bl true, .int 0])] = some (.bl false, []) := run_bad_b wr11 (worth_ok (d := .bl true) rfl)
theorem sp9 : F_is_slope [.dat (.int 1), .dat (.bl false)] = some (.bl false, []) := by
  have w := whole_ok (d := .bl false) rfl
  simp! only [F_is_slope, g_is_slope, w, isW, isNon, Bool.true_xor, Bool.not_true, Bool.not_false, Bool.xor_false, Bool.xor_true]
theorem ir8 : F_is_run [.dat (.tup [.lst [], .int 1, .bl false])] = some (.bl false, []) := run_bad_c wr11 (worth_ok (d := .int 1) rfl) sp9
theorem ir9 : F_is_run [.dat (.tup [.lst [], .non, .int 1])] = some (.bl false, []) := run_bad_c wr11 (worth_ok (d := .non) rfl) sp4
theorem ir10 : F_is_run [.dat (.tup [.lst [], .non, .bl false])] = some (.bl false, []) := run_bad_c wr11 (worth_ok (d := .non) rfl) sp8
theorem ir11 : F_is_run [.dat (.tup [.lst [.bl true], .int 4, .int 0])] = some (.bl false, []) := run_bad_a wr4
theorem ir12 : F_is_run [.dat (.tup [.lst [.non], .non, .int 0])] = some (.bl false, []) := by
  have z := run_b (r := ⟨[none], none, 0⟩) (by decide) (fun z => by first | rfl | cases z)
  have v : vdB ⟨[none], none, 0⟩ = false := by decide
  rw [v] at z
  exact z
theorem ir13 : F_is_run [.dat (.tup [.lst [.int 2, .int 1], .int 4, .int 3])] = some (.bl false, []) := by
  have z := run_b (r := ⟨[some 2, some 1], some 4, 3⟩) (by decide) (fun z => by first | rfl | cases z)
  have v : vdB ⟨[some 2, some 1], some 4, 3⟩ = false := by decide
  rw [v] at z
  exact z
theorem ir14 : F_is_run [.dat (.tup [.lst [.int 0], .int 0, .int 0])] = some (.bl false, []) := by
  have z := run_b (r := ⟨[some 0], some 0, 0⟩) (by decide) (fun z => by first | rfl | cases z)
  have v : vdB ⟨[some 0], some 0, 0⟩ = false := by decide
  rw [v] at z
  exact z
theorem wr12 : F_are_worths [.dat (.str "ab")] = some (.bl false, []) := by
  simp! only [F_are_worths, g_are_worths, isIt]
theorem ir15 : F_is_run [.dat (.tup [.str "ab", .int 1, .int 2])] = some (.bl false, []) := run_bad_a wr12
theorem ok6 : FX_check_run CR [.tup [.lst [.non, .int 5], .int 4, .int (-2)]] = some (.ok .non) := check_run_ok (r := ⟨[none, some 5], some 4, -2⟩) (by decide) ⟨fun z => (by cases z), by decide⟩
theorem bt0 : F_is_between [.dat (.non), .dat (.int 0), .dat .non] = some (.bl false, []) := by
  have w := whole_ok (d := .non) rfl
  simp! only [F_is_between, g_is_between, w, isW, leI, isNon, Bool.false_xor, (show decide ((0 : Int) ≤ -1) = false from rfl)]
theorem bt1 : F_is_between [.dat (.int (-1)), .dat (.int 0), .dat .non] = some (.bl false, []) := by
  have w := whole_ok (d := .int (-1)) rfl
  simp! only [F_is_between, g_is_between, w, isW, leI, isNon, Bool.false_xor, (show decide ((0 : Int) ≤ -1) = false from rfl)]
theorem bt2 : F_is_between [.dat (.bl true), .dat (.int 0), .dat .non] = some (.bl false, []) := by
  have w := whole_ok (d := .bl true) rfl
  simp! only [F_is_between, g_is_between, w, isW, leI, isNon, Bool.false_xor, (show decide ((0 : Int) ≤ -1) = false from rfl)]
theorem bt3 : F_is_between [.dat (.str "0"), .dat (.int 0), .dat .non] = some (.bl false, []) := by
  have w := whole_ok (d := .str "0") rfl
  simp! only [F_is_between, g_is_between, w, isW, leI, isNon, Bool.false_xor, (show decide ((0 : Int) ≤ -1) = false from rfl)]
theorem bt4 : F_is_between [.dat (.lst [.int 0]), .dat (.int 0), .dat .non] = some (.bl false, []) := by
  have w := whole_ok (d := .lst [.int 0]) rfl
  simp! only [F_is_between, g_is_between, w, isW, leI, isNon, Bool.false_xor, (show decide ((0 : Int) ≤ -1) = false from rfl)]
variable (h : Cs CL CN CR)
include h
theorem lf0_it {x1 : Slot} : ∀ d ∈ ([.non, .tup [], .tup [.int 1], .str "1", .lst [.bl true], .lst [.str "1"], .lst [.lst [.int 1]], .lst [.int 1, .non, .tup [.int 2]], .int 5] : List Dv), lf0b CL CN CR [.dat d, x1] = some (.nx [.dat d, x1]) := fun d hd => by
  simp only [List.mem_cons, List.not_mem_nil, or_false] at hd
  rcases hd with rfl | rfl | rfl | rfl | rfl | rfl | rfl | rfl | rfl
  · exact lf0b_ok bd0 (ct0_0 h bd0 (least_bad1 wr0))
  · exact lf0b_ok bd1 (ct0_0 h bd1 (least_bad1 wr1))
  · exact lf0b_ok bd2 (ct0_0 h bd2 (least_bad1 wr2))
  · exact lf0b_ok bd3 (ct0_0 h bd3 (least_bad1 wr3))
  · exact lf0b_ok bd4 (ct0_0 h bd4 (least_bad1 wr4))
  · exact lf0b_ok bd5 (ct0_0 h bd5 (least_bad1 wr5))
  · exact lf0b_ok bd6 (ct0_0 h bd6 (least_bad1 wr6))
  · exact lf0b_ok bd7 (ct0_0 h bd7 (least_bad1 wr7))
  · exact lf0b_ok bd8 (ct0_0 h bd8 (least_bad1 wr8))
theorem lf1_it {x1 : Slot} : ∀ d ∈ ([.str "1", .bl true, .lst [.int 1], .tup [.int 1], .lst [.non]] : List Dv), lf1b CL CN CR [.dat d, x1] = some (.nx [.dat d, x1]) := fun d hd => by
  simp only [List.mem_cons, List.not_mem_nil, or_false] at hd
  rcases hd with rfl | rfl | rfl | rfl | rfl
  · exact lf1b_ok bd3 (ct0_1 h bd3 (least_bad2 wr9 (worth_ok (d := .str "1") rfl)))
  · exact lf1b_ok bd9 (ct0_1 h bd9 (least_bad2 wr9 (worth_ok (d := .bl true) rfl)))
  · exact lf1b_ok bd10 (ct0_1 h bd10 (least_bad2 wr9 (worth_ok (d := .lst [.int 1]) rfl)))
  · exact lf1b_ok bd2 (ct0_1 h bd2 (least_bad2 wr9 (worth_ok (d := .tup [.int 1]) rfl)))
  · exact lf1b_ok bd11 (ct0_1 h bd11 (least_bad2 wr9 (worth_ok (d := .lst [.non]) rfl)))
theorem lf2_it {x1 : Slot} : ∀ d ∈ ([.non, .str "1", .bl false, .lst [.int 1]] : List Dv), lf2b CL CN CR [.dat d, x1] = some (.nx [.dat d, x1]) := fun d hd => by
  simp only [List.mem_cons, List.not_mem_nil, or_false] at hd
  rcases hd with rfl | rfl | rfl | rfl
  · exact lf2b_ok bd0 (ct0_1 h bd0 (least_bad3 wr10 (worth_ok (d := .int 3) rfl) sp0))
  · exact lf2b_ok bd3 (ct0_1 h bd3 (least_bad3 wr10 (worth_ok (d := .int 3) rfl) sp1))
  · exact lf2b_ok bd12 (ct0_1 h bd12 (least_bad3 wr10 (worth_ok (d := .int 3) rfl) sp2))
  · exact lf2b_ok bd10 (ct0_1 h bd10 (least_bad3 wr10 (worth_ok (d := .int 3) rfl) sp3))
theorem lf3_it {x1 : Slot} : ∀ d ∈ ([.int 1, .int (-1), .non, .bl true, .bl false] : List Dv), lf3b CL CN CR [.dat d, x1] = some (.nx [.dat d, x1]) := fun d hd => by
  simp only [List.mem_cons, List.not_mem_nil, or_false] at hd
  rcases hd with rfl | rfl | rfl | rfl | rfl
  · exact lf3b_ok bd13 (ct0_1 h bd13 (least_bad3 wr10 (worth_ok (d := .non) rfl) sp4))
  · exact lf3b_ok bd14 (ct0_1 h bd14 (least_bad3 wr10 (worth_ok (d := .non) rfl) sp5))
  · exact lf3b_ok bd0 (ct0_1 h bd0 (least_bad3 wr10 (worth_ok (d := .non) rfl) sp6))
  · exact lf3b_ok bd9 (ct0_1 h bd9 (least_bad3 wr10 (worth_ok (d := .non) rfl) sp7))
  · exact lf3b_ok bd12 (ct0_1 h bd12 (least_bad3 wr10 (worth_ok (d := .non) rfl) sp8))
theorem lf5_it {x1 : Slot} : ∀ d ∈ ([.non, .int 7, .lst [], .tup [.lst [], .int 1], .tup [.lst [], .int 1, .int 0, .int 0], .lst [.lst [], .int 1, .int 0], .tup [.tup [], .int 1, .int 0], .tup [.lst [], .bl true, .int 0], .tup [.lst [], .int 1, .bl false], .tup [.lst [], .non, .int 1], .tup [.lst [], .non, .bl false], .tup [.lst [.bl true], .int 4, .int 0], .tup [.lst [.non], .non, .int 0], .tup [.lst [.int 2, .int 1], .int 4, .int 3], .tup [.lst [.int 0], .int 0, .int 0], .tup [.str "ab", .int 1, .int 2]] : List Dv), lf5b CL CN CR [.dat d, x1] = some (.nx [.dat d, x1]) := fun d hd => by
  simp only [List.mem_cons, List.not_mem_nil, or_false] at hd
  rcases hd with rfl | rfl | rfl | rfl | rfl | rfl | rfl | rfl | rfl | rfl | rfl | rfl | rfl | rfl | rfl | rfl
  · exact lf5b_ok bd0 ir0 (ct1_2 h bd0 (value_bad1 ir0))
  · exact lf5b_ok bd15 ir1 (ct1_2 h bd15 (value_bad1 ir1))
  · exact lf5b_ok bd16 ir2 (ct1_2 h bd16 (value_bad1 ir2))
  · exact lf5b_ok bd17 ir3 (ct1_2 h bd17 (value_bad1 ir3))
  · exact lf5b_ok bd18 ir4 (ct1_2 h bd18 (value_bad1 ir4))
  · exact lf5b_ok bd19 ir5 (ct1_2 h bd19 (value_bad1 ir5))
  · exact lf5b_ok bd20 ir6 (ct1_2 h bd20 (value_bad1 ir6))
  · exact lf5b_ok bd21 ir7 (ct1_2 h bd21 (value_bad1 ir7))
  · exact lf5b_ok bd22 ir8 (ct1_2 h bd22 (value_bad1 ir8))
  · exact lf5b_ok bd23 ir9 (ct1_2 h bd23 (value_bad1 ir9))
  · exact lf5b_ok bd24 ir10 (ct1_2 h bd24 (value_bad1 ir10))
  · exact lf5b_ok bd25 ir11 (ct1_2 h bd25 (value_bad1 ir11))
  · exact lf5b_ok bd26 ir12 (ct1_2 h bd26 (value_bad1 ir12))
  · exact lf5b_ok bd27 ir13 (ct1_2 h bd27 (value_bad1 ir13))
  · exact lf5b_ok bd28 ir14 (ct1_2 h bd28 (value_bad1 ir14))
  · exact lf5b_ok bd29 ir15 (ct1_2 h bd29 (value_bad1 ir15))
theorem lf6_it {x1 : Slot} : ∀ d ∈ ([.non, .int (-1), .bl true, .str "0", .lst [.int 0]] : List Dv), lf6b CL CN CR [.dat d, x1] = some (.nx [.dat d, x1]) := fun d hd => by
  simp only [List.mem_cons, List.not_mem_nil, or_false] at hd
  rcases hd with rfl | rfl | rfl | rfl | rfl
  · exact lf6b_ok bd0 (ct1_1 h bd0 (value_bad2 ok6 bt0))
  · exact lf6b_ok bd14 (ct1_1 h bd14 (value_bad2 ok6 bt1))
  · exact lf6b_ok bd9 (ct1_1 h bd9 (value_bad2 ok6 bt2))
  · exact lf6b_ok bd30 (ct1_1 h bd30 (value_bad2 ok6 bt3))
  · exact lf6b_ok bd31 (ct1_1 h bd31 (value_bad2 ok6 bt4))
theorem lf0_ok {x0 x1 : Slot} (z : Z0 x0) : ∃ y0, Z0 y0 ∧ lf0 CL CN CR [x0, x1] = some (.nx [y0, x1]) :=
  for_go (l := [.non, .tup [], .tup [.int 1], .str "1", .lst [.bl true], .lst [.str "1"], .lst [.lst [.int 1]], .lst [.int 1, .non, .tup [.int 2]], .int 5]) (by simp! only [neg1, (show (0 ≤ szL) = True by decide), (show (1 ≤ szL) = True by decide), (show (2 ≤ szL) = True by decide), (show (3 ≤ szL) = True by decide), (show (4 ≤ szL) = True by decide), (show (5 ≤ szL) = True by decide), (show (6 ≤ szL) = True by decide), (show (7 ≤ szL) = True by decide), (show (8 ≤ szL) = True by decide), (show (9 ≤ szL) = True by decide), (show (10 ≤ szL) = True by decide), (show (11 ≤ szL) = True by decide), (show (12 ≤ szL) = True by decide), (show (13 ≤ szL) = True by decide), (show (14 ≤ szL) = True by decide), (show (15 ≤ szL) = True by decide), (show (16 ≤ szL) = True by decide), (show (17 ≤ szL) = True by decide)]) z (lf0_it h)
theorem lf1_ok {x0 x1 : Slot} (z : Z0 x0) : ∃ y0, Z0 y0 ∧ lf1 CL CN CR [x0, x1] = some (.nx [y0, x1]) :=
  for_go (l := [.str "1", .bl true, .lst [.int 1], .tup [.int 1], .lst [.non]]) (by simp! only [neg1, (show (0 ≤ szL) = True by decide), (show (1 ≤ szL) = True by decide), (show (2 ≤ szL) = True by decide), (show (3 ≤ szL) = True by decide), (show (4 ≤ szL) = True by decide), (show (5 ≤ szL) = True by decide), (show (6 ≤ szL) = True by decide), (show (7 ≤ szL) = True by decide), (show (8 ≤ szL) = True by decide), (show (9 ≤ szL) = True by decide), (show (10 ≤ szL) = True by decide), (show (11 ≤ szL) = True by decide), (show (12 ≤ szL) = True by decide), (show (13 ≤ szL) = True by decide), (show (14 ≤ szL) = True by decide), (show (15 ≤ szL) = True by decide), (show (16 ≤ szL) = True by decide), (show (17 ≤ szL) = True by decide)]) z (lf1_it h)
theorem lf2_ok {x0 x1 : Slot} (z : Z0 x0) : ∃ y0, Z0 y0 ∧ lf2 CL CN CR [x0, x1] = some (.nx [y0, x1]) :=
  for_go (l := [.non, .str "1", .bl false, .lst [.int 1]]) (by simp! only [neg1, (show (0 ≤ szL) = True by decide), (show (1 ≤ szL) = True by decide), (show (2 ≤ szL) = True by decide), (show (3 ≤ szL) = True by decide), (show (4 ≤ szL) = True by decide), (show (5 ≤ szL) = True by decide), (show (6 ≤ szL) = True by decide), (show (7 ≤ szL) = True by decide), (show (8 ≤ szL) = True by decide), (show (9 ≤ szL) = True by decide), (show (10 ≤ szL) = True by decide), (show (11 ≤ szL) = True by decide), (show (12 ≤ szL) = True by decide), (show (13 ≤ szL) = True by decide), (show (14 ≤ szL) = True by decide), (show (15 ≤ szL) = True by decide), (show (16 ≤ szL) = True by decide), (show (17 ≤ szL) = True by decide)]) z (lf2_it h)
theorem lf3_ok {x0 x1 : Slot} (z : Z0 x0) : ∃ y0, Z0 y0 ∧ lf3 CL CN CR [x0, x1] = some (.nx [y0, x1]) :=
  for_go (l := [.int 1, .int (-1), .non, .bl true, .bl false]) (by simp! only [neg1, (show (0 ≤ szL) = True by decide), (show (1 ≤ szL) = True by decide), (show (2 ≤ szL) = True by decide), (show (3 ≤ szL) = True by decide), (show (4 ≤ szL) = True by decide), (show (5 ≤ szL) = True by decide), (show (6 ≤ szL) = True by decide), (show (7 ≤ szL) = True by decide), (show (8 ≤ szL) = True by decide), (show (9 ≤ szL) = True by decide), (show (10 ≤ szL) = True by decide), (show (11 ≤ szL) = True by decide), (show (12 ≤ szL) = True by decide), (show (13 ≤ szL) = True by decide), (show (14 ≤ szL) = True by decide), (show (15 ≤ szL) = True by decide), (show (16 ≤ szL) = True by decide), (show (17 ≤ szL) = True by decide)]) z (lf3_it h)
theorem lf6_ok {x0 x1 : Slot} (z : Z0 x0) : ∃ y0, Z0 y0 ∧ lf6 CL CN CR [x0, x1] = some (.nx [y0, x1]) :=
  for_go (l := [.non, .int (-1), .bl true, .str "0", .lst [.int 0]]) (by simp! only [neg1, (show (0 ≤ szL) = True by decide), (show (1 ≤ szL) = True by decide), (show (2 ≤ szL) = True by decide), (show (3 ≤ szL) = True by decide), (show (4 ≤ szL) = True by decide), (show (5 ≤ szL) = True by decide), (show (6 ≤ szL) = True by decide), (show (7 ≤ szL) = True by decide), (show (8 ≤ szL) = True by decide), (show (9 ≤ szL) = True by decide), (show (10 ≤ szL) = True by decide), (show (11 ≤ szL) = True by decide), (show (12 ≤ szL) = True by decide), (show (13 ≤ szL) = True by decide), (show (14 ≤ szL) = True by decide), (show (15 ≤ szL) = True by decide), (show (16 ≤ szL) = True by decide), (show (17 ≤ szL) = True by decide)]) z (lf6_it h)
def odds : List Dv := [.non, .int 7, .lst [], .tup [.lst [], .int 1], .tup [.lst [], .int 1, .int 0, .int 0], .lst [.lst [], .int 1, .int 0], .tup [.tup [], .int 1, .int 0], .tup [.lst [], .bl true, .int 0], .tup [.lst [], .int 1, .bl false], .tup [.lst [], .non, .int 1]]
omit h in
theorem lf4_ok {x0 : Slot} : lf4 CL CN CR [x0, .non] = some (.nx [x0, .dat (.lst odds)]) := by
  simp! only [lf4, odds, (show (0 ≤ szL) = True by decide), (show (1 ≤ szL) = True by decide), (show (2 ≤ szL) = True by decide), (show (3 ≤ szL) = True by decide), (show (4 ≤ szL) = True by decide), (show (5 ≤ szL) = True by decide), (show (6 ≤ szL) = True by decide), (show (7 ≤ szL) = True by decide), (show (8 ≤ szL) = True by decide), (show (9 ≤ szL) = True by decide), (show (10 ≤ szL) = True by decide), (show (11 ≤ szL) = True by decide), (show (12 ≤ szL) = True by decide), (show (13 ≤ szL) = True by decide), (show (14 ≤ szL) = True by decide), (show (15 ≤ szL) = True by decide), (show (16 ≤ szL) = True by decide), (show (17 ≤ szL) = True by decide)]
theorem lf5_ok {x0 : Slot} (z : Z0 x0) : ∃ y0, Z0 y0 ∧ lf5 CL CN CR [x0, .dat (.lst odds)] = some (.nx [y0, .dat (.lst odds)]) :=
  for_go (l := [.non, .int 7, .lst [], .tup [.lst [], .int 1], .tup [.lst [], .int 1, .int 0, .int 0], .lst [.lst [], .int 1, .int 0], .tup [.tup [], .int 1, .int 0], .tup [.lst [], .bl true, .int 0], .tup [.lst [], .int 1, .bl false], .tup [.lst [], .non, .int 1], .tup [.lst [], .non, .bl false], .tup [.lst [.bl true], .int 4, .int 0], .tup [.lst [.non], .non, .int 0], .tup [.lst [.int 2, .int 1], .int 4, .int 3], .tup [.lst [.int 0], .int 0, .int 0], .tup [.str "ab", .int 1, .int 2]]) (by simp! only [odds, List.length_cons, List.length_nil, List.cons_append, List.nil_append, (show (0 ≤ szL) = True by decide), (show (1 ≤ szL) = True by decide), (show (2 ≤ szL) = True by decide), (show (3 ≤ szL) = True by decide), (show (4 ≤ szL) = True by decide), (show (5 ≤ szL) = True by decide), (show (6 ≤ szL) = True by decide), (show (7 ≤ szL) = True by decide), (show (8 ≤ szL) = True by decide), (show (9 ≤ szL) = True by decide), (show (10 ≤ szL) = True by decide), (show (11 ≤ szL) = True by decide), (show (12 ≤ szL) = True by decide), (show (13 ≤ szL) = True by decide), (show (14 ≤ szL) = True by decide), (show (15 ≤ szL) = True by decide), (show (16 ≤ szL) = True by decide), (show (17 ≤ szL) = True by decide), (show (0 + 1 + 1 + 1 + 1 + 1 + 1 + 1 + 1 + 1 + 1 + (0 + 1 + 1 + 1 + 1 + 1 + 1) ≤ szL) = True by decide), (show (10 + 6 ≤ szL) = True by decide)]) z (lf5_it h)
theorem refused_ok : F_law_refused CL CN CR [] = some (.bl true, []) := by
  obtain ⟨a0, z0, e0⟩ := lf0_ok h (x1 := .non) (x0 := .non) (.inl rfl)
  obtain ⟨a1, z1, e1⟩ := lf1_ok h (x1 := .non) z0
  obtain ⟨a2, z2, e2⟩ := lf2_ok h (x1 := .non) z1
  obtain ⟨a3, z3, e3⟩ := lf3_ok h (x1 := .non) z2
  obtain ⟨a5, z5, e5⟩ := lf5_ok h z3
  obtain ⟨a6, z6, e6⟩ := lf6_ok h (x1 := .dat (.lst odds)) z5
  have st : (([] : List Slot) ++ List.replicate (2 - ([] : List Slot).length) Slot.non) = [.non, .non] := rfl
  have e7 : lf7 CL CN CR [a6, .dat (.lst odds)] = some (.rt (.bl true) [a6, .dat (.lst odds)]) := rfl
  unfold F_law_refused runDef
  rw [st, lf_all, seq_nx e0, seq_nx e1, seq_nx e2, seq_nx e3, seq_nx lf4_ok, seq_nx e5, seq_nx e6, e7]
  rfl
end Law

set_option Elab.async false
set_option linter.all false
set_option maxRecDepth 100000
set_option maxHeartbeats 8000000
set_option exponentiation.threshold 2000
namespace Law
open PySem L2 DL
noncomputable def lw0b (K : PySem.W.Frag) (CL : Addr) (CN : Addr) (CR : Addr) : SF := (sSeq (sOwn 2 (fNewR 2 (F_law_generator K) (fCons (fVar 0) (fCons (fVar 1) fNil))))
    (sIf (fNot (fTest (fCall 2 (some 0) (F_law_least_good CL CN CR) (fCons (fVar 2) (fCons (fCall 2 (some 0) F_law_raw_run (fCons (fVar 2) (fCons (fC (.int (6 : Int))) fNil))) fNil))))) (sRet (fC (.bl false))) sNext))
noncomputable def lw0 (K : PySem.W.Frag) (CL : Addr) (CN : Addr) (CR : Addr) : SF := (sFor (fRng1 (fCons (fC (.int (6 : Int))) fNil)) (fName 1) (lw0b K CL CN CR))
noncomputable def lw1 (K : PySem.W.Frag) (CL : Addr) (CN : Addr) (CR : Addr) : SF := (sAsg (fLst' (fCons (fCall 3 none (F_least_run CL CN) (fCons (fLst' (fCons (fC .non) (fCons (fC (.int (1 : Int))) (fCons (fC (.int (3 : Int))) fNil)))) (fCons (fC (.int (5 : Int))) (fCons (fC (.int (2 : Int))) fNil)))) (fCons (fCall 3 none (F_least_run CL CN) (fCons (fLst' (fCons (fC .non) (fCons (fC .non) fNil))) (fCons (fC .non) (fCons (fC (.int (0 : Int))) fNil)))) (fCons (fCall 3 none (F_least_run CL CN) (fCons (fLst' fNil) (fCons (fC (.int (4 : Int))) (fCons (fC (.int (0 : Int))) fNil)))) (fCons (fCall 3 none (F_least_run CL CN) (fCons (fLst' (fCons (fC (.int (4 : Int))) (fCons (fC (.int (4 : Int))) fNil))) (fCons (fC (.int (4 : Int))) (fCons (fC (.int (0 : Int))) fNil)))) fNil))))) (fName 3))
noncomputable def lw2 (K : PySem.W.Frag) (CL : Addr) (CN : Addr) (CR : Addr) : SF := (sIf (fTest (fOp gNe (fCB (g1 gRepr) (fCons (fVar 3) fNil)) (fCB (g1 gRepr) (fCons (fLst' (fCons (fTup' (fCons (fLst' (fCons (fC .non) fNil)) (fCons (fC (.int (1 : Int))) (fCons (fC (.int (2 : Int))) fNil)))) (fCons (fTup' (fCons (fLst' fNil) (fCons (fC .non) (fCons (fC (.int (0 : Int))) fNil)))) (fCons (fTup' (fCons (fLst' fNil) (fCons (fC (.int (4 : Int))) (fCons (fC (.int (0 : Int))) fNil)))) (fCons (fTup' (fCons (fLst' fNil) (fCons (fC (.int (4 : Int))) (fCons (fC (.int (0 : Int))) fNil)))) fNil))))) fNil)))) (sRet (fC (.bl false))) sNext)
noncomputable def lw3 (K : PySem.W.Frag) (CL : Addr) (CN : Addr) (CR : Addr) : SF := (sRet (fAndV (fOp (gIs false) (fCallK 0 1 1 [] [0] F_is_run fNil (fCons (fTup' (fCons (fLst' fNil) (fCons (fUn gNeg (fC (.int (3 : Int)))) (fCons (fC (.int (7 : Int))) fNil)))) fNil)) (fC (.bl true))) (fAndV (fOp gEq (fCallK 0 2 2 [] [1, 0] (F_run_value CN CR) fNil (fCons (fC (.int (2 : Int))) (fCons (fTup' (fCons (fLst' (fCons (fC (.int (9 : Int))) fNil)) (fCons (fC (.int (1 : Int))) (fCons (fUn gNeg (fC (.int (4 : Int)))) fNil)))) fNil))) (fUn gNeg (fC (.int (3 : Int))))) (fCall 0 none (F_law_refused CL CN CR) fNil))))
theorem lw_all {K : PySem.W.Frag} {CL : Addr} {CN : Addr} {CR : Addr} : g_law K CL CN CR = (sSeq (lw0 K CL CN CR) (sSeq (lw1 K CL CN CR) (sSeq (lw2 K CL CN CR) (lw3 K CL CN CR)))) := rfl
variable {CL CN CR : Addr} {K : PySem.W.Frag} {ns : List Int}
def LE (K : PySem.W.Frag) (ns : List Int) (x1 x2 x3 : Slot) : DEnv := [.dat (.scr K ns), x1, x2, x3]
def St (x1 x2 : Slot) : Prop := (x1 = .non ∧ x2 = .non) ∨ ∃ y d1, x1 = .dat d1 ∧ x2 = .own false y
theorem turn_ok {i : Int} (h0 : 0 ≤ i) (hi : i ≤ 5) {x1 x2 : Slot} (s : St x1 x2) : ∃ y, lw0b K CL CN CR (LE K ns (.dat (.int i)) x2 .non) = some (.nx (LE K ns (.dat (.int i)) (.own false y) .non)) := by
  obtain ⟨ys, g0, gg⟩ := gen_ok (K := K) (ns := ns) h0 (by omega)
  obtain ⟨r, y2, p1, b1, g2⟩ := raw_run_ok gg (by omega)
  obtain ⟨y3, f1, g3⟩ := least_good_ok (CL := CL) (CN := CN) (CR := CR) g2 (by omega) b1
  refine ⟨y3, ?_⟩
  rcases s with ⟨_, rfl⟩ | ⟨y, d1, _, rfl⟩
  · simp! only [lw0b, LE, g0, p1, f1]
  · simp! only [lw0b, LE, g0, p1, f1]
theorem lw0_ok : ∃ y d1, lw0 K CL CN CR (LE K ns .non .non .non) = some (.nx (LE K ns (.dat d1) (.own false y) .non)) := by
  have hr : rngC 6 := rng_ok (by decide) (by decide)
  obtain ⟨e', lp, q⟩ := loop_inv (gf := fName 1) (gb := lw0b K CL CN CR) (fun i e => ∃ x1 x2, (St x1 x2 ∧ (0 < i → x1 ≠ .non)) ∧ e = LE K ns x1 x2 .non) (rangeD 0 (6 : Int).toNat) (fun i d hd e pe => by
    obtain ⟨x1, x2, s, rfl⟩ := pe
    obtain ⟨rfl, hi⟩ := rangeD_get hd
    obtain ⟨y, h⟩ := turn_ok (K := K) (CL := CL) (CN := CN) (CR := CR) (ns := ns) (i := 0 + (i : Int)) (by omega) (by
      have : (6 : Int).toNat = 6 := rfl
      omega) s.1
    refine ⟨LE K ns (.dat (.int (0 + (i : Int)))) x2 .non, _, ?_, .inl h, _, _, ⟨.inr ⟨y, .int (0 + (i : Int)), rfl, rfl⟩, fun _ z => (by cases z)⟩, rfl⟩
    rcases s.1 with ⟨rfl, _⟩ | ⟨_, d1, rfl, _⟩ <;> rfl) (LE K ns .non .non .non) ⟨.non, .non, ⟨.inl ⟨rfl, rfl⟩, fun z => absurd z (by decide)⟩, rfl⟩
  rw [rangeD_len] at q
  obtain ⟨x1, x2, ⟨s, ne⟩, rfl⟩ := q
  rcases s with ⟨rfl, _⟩ | ⟨y, d1, rfl, rfl⟩
  · exact absurd rfl (ne (by decide))
  · refine ⟨y, d1, ?_⟩
    have fi : fRng1 (fCons (fC (.int (6 : Int))) fNil) (LE K ns .non .non .non) = some (rangeD 0 (6 : Int).toNat, LE K ns .non .non .non) := by
      simp! only [LE, hr]
    unfold lw0
    rw [e_for, fi, Option.bind_some, lp]
theorem fa : F_least_run CL CN [.dat (.lst [.non, .int 1, .int 3]), .dat (.int 5), .dat (.int 2)] = some (.tup [.lst [.non], .int 1, .int 2], []) := F_least_ok (r := ⟨[none, some 1, some 3], some 5, 2⟩) (by decide) (fun z => by cases z)
theorem fb : F_least_run CL CN [.dat (.lst [.non, .non]), .dat .non, .dat (.int 0)] = some (.tup [.lst [], .non, .int 0], []) := F_least_ok (r := ⟨[none, none], none, 0⟩) (by decide) (fun _ => rfl)
theorem fc : F_least_run CL CN [.dat (.lst []), .dat (.int 4), .dat (.int 0)] = some (.tup [.lst [], .int 4, .int 0], []) := F_least_ok (r := ⟨[], some 4, 0⟩) (by decide) (fun z => by cases z)
theorem fd : F_least_run CL CN [.dat (.lst [.int 4, .int 4]), .dat (.int 4), .dat (.int 0)] = some (.tup [.lst [], .int 4, .int 0], []) := F_least_ok (r := ⟨[some 4, some 4], some 4, 0⟩) (by decide) (fun z => by cases z)
def told : Dv := .lst [.tup [.lst [.non], .int 1, .int 2], .tup [.lst [], .non, .int 0], .tup [.lst [], .int 4, .int 0], .tup [.lst [], .int 4, .int 0]]
theorem sw_told : Sw 10 1000 told := ⟨by decide +kernel, ⟨by decide +kernel, by decide +kernel⟩, by decide +kernel⟩
theorem ir : F_is_run [.dat (.tup [.lst [], .int (-3), .int 7])] = some (.bl true, []) := run_b (r := ⟨[], some (-3), 7⟩) (by decide) (fun z => by cases z)
theorem rv : F_run_value CN CR [.dat (.tup [.lst [.int 9], .int 1, .int (-4)]), .dat (.int 2)] = some (.int (-3), []) := run_value_ok (r := ⟨[some 9], some 1, -4⟩) ⟨by decide, by decide +kernel, fun x z => by cases z; decide +kernel⟩ ⟨fun z => (by cases z), by decide⟩ (n := 2) (by decide +kernel)
theorem law_ok (h : Cs CL CN CR) : F_law K CL CN CR [.dat (.scr K ns)] = some (.bl true, []) := by
  obtain ⟨y, d1, e0⟩ := lw0_ok (K := K) (CL := CL) (CN := CN) (CR := CR) (ns := ns)
  have e1 : lw1 K CL CN CR (LE K ns (.dat d1) (.own false y) .non) = some (.nx (LE K ns (.dat d1) (.own false y) (.dat told))) := by
    simp! only [lw1, LE, told, (show (0 ≤ szL) = True by decide), (show (1 ≤ szL) = True by decide), (show (2 ≤ szL) = True by decide), (show (3 ≤ szL) = True by decide), (show (4 ≤ szL) = True by decide), (show (5 ≤ szL) = True by decide), fa, fb, fc, fd]
  have r := fun env => gRepr_of (env := env) (x := .d told) (d := told) rfl sw_told (by decide) (by decide)
  have r3 := gRepr_of (env := LE K ns (.dat d1) (.own false y) (.dat told)) (x := .v 3) (d := told) rfl sw_told (by decide) (by decide)
  generalize (py told).shown = t at r r3
  simp only [LE, told] at r r3
  have e2 : lw2 K CL CN CR (LE K ns (.dat d1) (.own false y) (.dat told)) = some (.nx (LE K ns (.dat d1) (.own false y) (.dat told))) := by
    simp! only [lw2, LE, told, (show (0 ≤ szL) = True by decide), (show (1 ≤ szL) = True by decide), (show (2 ≤ szL) = True by decide), (show (3 ≤ szL) = True by decide), (show (4 ≤ szL) = True by decide), (show (5 ≤ szL) = True by decide), r, r3, gNe_ss, beq_self_eq_true, Bool.not_true]
  have rf := refused_ok h
  have e3 : lw3 K CL CN CR (LE K ns (.dat d1) (.own false y) (.dat told)) = some (.rt (.bl true) (LE K ns (.dat d1) (.own false y) (.dat told))) := by
    simp! only [lw3, LE, told, (show (0 ≤ szL) = True by decide), (show (1 ≤ szL) = True by decide), (show (2 ≤ szL) = True by decide), (show (3 ≤ szL) = True by decide), (show (4 ≤ szL) = True by decide), (show (5 ≤ szL) = True by decide), neg1, ir, rv, rf, gEq_id, beq_self_eq_true, Bool.false_xor]
  have st : ([Slot.dat (.scr K ns)] ++ List.replicate (4 - [Slot.dat (.scr K ns)].length) Slot.non) = LE K ns .non .non .non := rfl
  unfold F_law runDef
  rw [st, lw_all, seq_nx e0, seq_nx e1, seq_nx e2, e3]
  rfl
theorem cs_of (h1 : PySem.W.kitOne K (.ref CL) (.ref CL) = some true) (h2 : PySem.W.kitOne K (.ref CL) (.ref CN) = some false) (h3 : PySem.W.kitOne K (.ref CL) (.ref CR) = some false) (h4 : PySem.W.kitOne K (.ref CN) (.ref CN) = some true) (h5 : PySem.W.kitOne K (.ref CN) (.ref CR) = some false) : Cs CL CN CR :=
  ⟨fun z => (by subst z; rw [h1] at h2; cases h2), fun z => (by subst z; rw [h1] at h3; cases h3), fun z => (by subst z; rw [h4] at h5; cases h5)⟩
theorem law_okC (h1 : PySem.W.kitOne K (.ref CL) (.ref CL) = some true) (h2 : PySem.W.kitOne K (.ref CL) (.ref CN) = some false) (h3 : PySem.W.kitOne K (.ref CL) (.ref CR) = some false) (h4 : PySem.W.kitOne K (.ref CN) (.ref CN) = some true) (h5 : PySem.W.kitOne K (.ref CN) (.ref CR) = some false) (ns : List Int) : F_law K CL CN CR [.dat (.scr K ns)] = some (.bl true, []) := law_ok (cs_of h1 h2 h3 h4 h5)
end Law

set_option Elab.async false
set_option linter.all false
set_option maxRecDepth 100000
set_option maxHeartbeats 4000000
open PySem PySem.W PyProof.Rows
set_option maxHeartbeats 0 in
theorem PySem.Challenge.cw_countscribe_k46_least_runs_holds : PySem.Challenge.rw_countscribe_k46_least_runs.Holds := by
  w_on; o_law; k_head; (case hw => w_witness2)
  k_fill
  refine DG.walk_g (l := PySem.Challenge.rw_countscribe_k46_least_runs) (n := 63) (k := 9) (x := "_law_script") (CX := fun _ => L2.CX0) (sp := fun w => DL.spD 1 (DL.okF _)) rfl (by decide) rfl ⟨rfl, by decide, by decide⟩ (fun w h Y => PySem.W.kIn_of Y) ?F (fun _ _ a ns hl hO hS => DL.sp_law DL.okF_ok hO hS) (fun _ _ _ _ _ h => h)
  case F =>
    intro w mg fa h KX G hmg
    refine' DG.law_imp (DL.okF_imp (Law.law_okC ?xk_InvalidList_InvalidList ?xk_InvalidList_InvalidNumber ?xk_InvalidList_InvalidRun ?xk_InvalidNumber_InvalidNumber ?xk_InvalidNumber_InvalidRun)) (Law.all_mk KX G hmg ?aC_CountError ?xtop ?aC_InvalidList ?xB_InvalidList ?xa_InvalidList ?xt_InvalidList ?xl_InvalidList ?xc_InvalidList ?xd_InvalidList ?xe_InvalidList ?xg_InvalidList ?xh_InvalidList ?xj_InvalidList ?xm_InvalidList ?x0_InvalidList ?aC_InvalidNumber ?xB_InvalidNumber ?xa_InvalidNumber ?xt_InvalidNumber ?xl_InvalidNumber ?xc_InvalidNumber ?xd_InvalidNumber ?xe_InvalidNumber ?xg_InvalidNumber ?xh_InvalidNumber ?xj_InvalidNumber ?xm_InvalidNumber ?x0_InvalidNumber ?aC_InvalidRun ?xB_InvalidRun ?xa_InvalidRun ?xt_InvalidRun ?xl_InvalidRun ?xc_InvalidRun ?xd_InvalidRun ?xe_InvalidRun ?xg_InvalidRun ?xh_InvalidRun ?xj_InvalidRun ?xm_InvalidRun ?x0_InvalidRun ?xk_InvalidList_InvalidList ?xk_InvalidList_InvalidNumber ?xk_InvalidList_InvalidRun ?xk_InvalidNumber_InvalidList ?xk_InvalidNumber_InvalidNumber ?xk_InvalidNumber_InvalidRun ?xk_InvalidRun_InvalidList ?xk_InvalidRun_InvalidNumber ?xk_InvalidRun_InvalidRun ?a0 ?l0 ?c0 ?k0 ?a1 ?l1 ?c1 ?k1 ?a2 ?l2 ?c2 ?k2 ?a3 ?l3 ?c3 ?k3 ?a4 ?l4 ?c4 ?k4 ?a5 ?l5 ?c5 ?k5 ?a6 ?l6 ?c6 ?k6 ?a7 ?l7 ?c7 ?k7 ?a8 ?l8 ?c8 ?k8 ?a9 ?l9 ?c9 ?k9 ?a10 ?l10 ?c10 ?k10 ?a11 ?l11 ?c11 ?k11 ?a12 ?l12 ?c12 ?k12 ?a13 ?l13 ?c13 ?k13 ?a14 ?l14 ?c14 ?k14 ?a15 ?l15 ?c15 ?k15 ?a16 ?l16 ?c16 ?k16 ?a17 ?l17 ?c17 ?k17 ?a18 ?l18 ?c18 ?k18 ?a19 ?l19 ?c19 ?k19 ?a20 ?l20 ?c20 ?k20 ?a21 ?l21 ?c21 ?k21 ?a22 ?l22 ?c22 ?k22 ?a23 ?l23 ?c23 ?k23 ?a24 ?l24 ?c24 ?k24 ?a25 ?l25 ?c25 ?k25 ?z_bool ?z_int ?z_isinstance ?z_len ?z_list ?z_max ?z_range ?z_repr ?z_sum ?z_super ?z_tuple)
    (case aC_CountError => k_is); (case xtop => first | rfl | decide +kernel | kernel_rfl); (case aC_InvalidList => k_is); (case xB_InvalidList => first | rfl | kernel_rfl | decide +kernel); (case xa_InvalidList => k_is); (case xt_InvalidList => k_is); (case xl_InvalidList => k_is); (case xc_InvalidList => k_is)
    (case xd_InvalidList => k_is); (case xe_InvalidList => k_is); (case xg_InvalidList => k_is); (case xh_InvalidList => first | rfl | decide +kernel | kernel_rfl); (case xj_InvalidList => first | rfl | decide +kernel | kernel_rfl); (case xm_InvalidList => first | kts_exm | k_is | kernel_rfl); (case x0_InvalidList => first | kit_is | k_is | kernel_rfl); (case aC_InvalidNumber => k_is)
    (case xB_InvalidNumber => first | rfl | kernel_rfl | decide +kernel); (case xa_InvalidNumber => k_is); (case xt_InvalidNumber => k_is); (case xl_InvalidNumber => k_is); (case xc_InvalidNumber => k_is); (case xd_InvalidNumber => k_is); (case xe_InvalidNumber => k_is); (case xg_InvalidNumber => k_is)
    (case xh_InvalidNumber => first | rfl | decide +kernel | kernel_rfl); (case xj_InvalidNumber => first | rfl | decide +kernel | kernel_rfl); (case xm_InvalidNumber => first | kts_exm | k_is | kernel_rfl); (case x0_InvalidNumber => first | kit_is | k_is | kernel_rfl); (case aC_InvalidRun => k_is); (case xB_InvalidRun => first | rfl | kernel_rfl | decide +kernel); (case xa_InvalidRun => k_is); (case xt_InvalidRun => k_is)
    (case xl_InvalidRun => k_is); (case xc_InvalidRun => k_is); (case xd_InvalidRun => k_is); (case xe_InvalidRun => k_is); (case xg_InvalidRun => k_is); (case xh_InvalidRun => first | rfl | decide +kernel | kernel_rfl); (case xj_InvalidRun => first | rfl | decide +kernel | kernel_rfl); (case xm_InvalidRun => first | kts_exm | k_is | kernel_rfl)
    (case x0_InvalidRun => first | kit_is | k_is | kernel_rfl); (case xk_InvalidList_InvalidList => first | kit_is | k_is | kernel_rfl); (case xk_InvalidList_InvalidNumber => first | kit_is | k_is | kernel_rfl); (case xk_InvalidList_InvalidRun => first | kit_is | k_is | kernel_rfl); (case xk_InvalidNumber_InvalidList => first | kit_is | k_is | kernel_rfl); (case xk_InvalidNumber_InvalidNumber => first | kit_is | k_is | kernel_rfl); (case xk_InvalidNumber_InvalidRun => first | kit_is | k_is | kernel_rfl); (case xk_InvalidRun_InvalidList => first | kit_is | k_is | kernel_rfl)
    (case xk_InvalidRun_InvalidNumber => first | kit_is | k_is | kernel_rfl); (case xk_InvalidRun_InvalidRun => first | kit_is | k_is | kernel_rfl); (case a0 => k_is); (case l0 => k_is); (case c0 => k_is); (case k0 => k_is); (case a1 => k_is); (case l1 => k_is)
    (case c1 => k_is); (case k1 => k_is); (case a2 => k_is); (case l2 => k_is); (case c2 => k_is); (case k2 => k_is); (case a3 => k_is); (case l3 => k_is)
    (case c3 => k_is); (case k3 => k_is); (case a4 => k_is); (case l4 => k_is); (case c4 => k_is); (case k4 => k_is); (case a5 => k_is); (case l5 => k_is)
    (case c5 => k_is); (case k5 => k_is); (case a6 => k_is); (case l6 => k_is); (case c6 => k_is); (case k6 => k_is); (case a7 => k_is); (case l7 => k_is)
    (case c7 => k_is); (case k7 => k_is); (case a8 => k_is); (case l8 => k_is); (case c8 => k_is); (case k8 => k_is); (case a9 => k_is); (case l9 => k_is)
    (case c9 => k_is); (case k9 => k_is); (case a10 => k_is); (case l10 => k_is); (case c10 => k_is); (case k10 => k_is); (case a11 => k_is); (case l11 => k_is)
    (case c11 => k_is); (case k11 => k_is); (case a12 => k_is); (case l12 => k_is); (case c12 => k_is); (case k12 => k_is); (case a13 => k_is); (case l13 => k_is)
    (case c13 => k_is); (case k13 => k_is); (case a14 => k_is); (case l14 => k_is); (case c14 => k_is); (case k14 => k_is); (case a15 => k_is); (case l15 => k_is)
    (case c15 => k_is); (case k15 => k_is); (case a16 => k_is); (case l16 => k_is); (case c16 => k_is); (case k16 => k_is); (case a17 => k_is); (case l17 => k_is)
    (case c17 => k_is); (case k17 => k_is); (case a18 => k_is); (case l18 => k_is); (case c18 => k_is); (case k18 => k_is); (case a19 => k_is); (case l19 => k_is)
    (case c19 => k_is); (case k19 => k_is); (case a20 => k_is); (case l20 => k_is); (case c20 => k_is); (case k20 => k_is); (case a21 => k_is); (case l21 => k_is)
    (case c21 => k_is); (case k21 => k_is); (case a22 => k_is); (case l22 => k_is); (case c22 => k_is); (case k22 => k_is); (case a23 => k_is); (case l23 => k_is)
    (case c23 => k_is); (case k23 => k_is); (case a24 => k_is); (case l24 => k_is); (case c24 => k_is); (case k24 => k_is); (case a25 => k_is); (case l25 => k_is)
    (case c25 => k_is); (case k25 => k_is); (case z_bool => k_is); (case z_int => k_is); (case z_isinstance => k_is); (case z_len => k_is); (case z_list => k_is); (case z_max => k_is)
    (case z_range => k_is); (case z_repr => k_is); (case z_sum => k_is); (case z_super => k_is); (case z_tuple => k_is)
