import PyProof.Rows.All
import Wide.All
import OpenK.AllK
import Wide.FinOn
import HandS.ForMost
import HandS.Exc
import HandS.ExcInit
import HandS.Nested
import KE.KExcSuper
import HandS.Defaults
import HandS.MakeKw
import HandS.MakeKwOnly
import HandS.ExcIs
import HandS.ExcField
import HandS.Zip
import HandS.TryMany
import HandS.IsInst
import HandS.Deep
import HandS.Flow
import HandS.TupAny
import HandS.Style
import HandS.ExcOwn
import PySem.Challenge.RW_saidanew_k01_errors_and_their_values
set_option Elab.async false
set_option linter.all false
set_option maxRecDepth 100000
set_option maxHeartbeats 4000000
namespace Sa
open PySem PySem.Spec PyProof.Rows L2
/-! ### the bound built-in __init__ called -/
section
variable {prog : Program} {w : World} {A : Around} {E : Value → Shared → Prop} {h : Heap} {g : Array GenState} {d : Drawn} {t : Nat} {os : OsState}
variable {nm q : Str} {C N : Addr} {bs bm : List Value} {hdct : Bool} {sn : List Str} {sub : List Value} {ab : Bool} {col : Option Bool} {dd : Option Addr} {k0 k1 k2 k3 k5 : Option Value}
theorem mw_call {u e t0 : Addr} {rest : List Value} {Q : Value → Shared → Prop}
    (hC : h.get? C = some (excClassObj nm q C N bs bm hdct sn sub ab col dd k0 k1 k2 k3 k5 "ValueError.__new__")) (he : h.get? e = some (HandSPX.excO C t0)) (hu : h.get? u = some (PySem.W.kxs_mw "ValueError.__init__" e)) (hrest : rest.length ≤ sizeLine)
    (hq : ∀ h' t1, (∀ b o, b ≠ e → h.get? b = some o → h'.get? b = some o) → h'.get? e = some (HandSPX.excO C t1) → Q .none ⟨h', g, d, t, os⟩) :
    wpAny (model prog w) A (call (.ref u) rest) Q E ⟨h, g, d, t, os⟩ := by
  refine wpAny_call (codeAny_of_tree ?_)
  show wpAny _ A.in1 (callAny (.ref u) ⟨rest, []⟩) _ _ _
  simp only [callAny]
  refine wpAny_bind (wpAny_load hu ?_)
  simp only [PySem.W.kxs_mw, show (Value.type "method-wrapper" == Value.type "method" || Value.type "method-wrapper" == Value.type "builtin_function_or_method" || Value.type "method-wrapper" == Value.type "method-wrapper") = true by decide, if_true]
  refine PySem.W.KFB.if_so (by decide) ?_
  refine wpAny_bind (PySem.W.check_bound_init PySem.F.excBase_ValueError.toExcCallFacts hC he rfl ?_)
  refine wpAny_bind (wpAny_pure (wpAny_pure ?_))
  refine ⟨Code.quiet_builtin _ (by decide +kernel), codeAny_builtin F.excBase_ValueError.initEntry ?_⟩
  rw [Around.under_plainId F.excBase_ValueError.init.plain _]
  wp_walk
  refine hq _ h.objs.size (fun b o hb ho => ?_) ?_
  · rw [Heap.get?_update_other _ _ (Ne.symm hb)]
    exact Heap.get?_push_of_some _ ho
  · rw [Heap.get?_update_self _ (Heap.get?_push_of_some _ he) rfl]
    rfl
end
/-! ### super().__init__(..) in an own exception's __init__ -/
/-- the class at C stands under the own class at S, whose __init__ is ValueError's -/
structure SupC (K : PySem.W.Frag) (C S : Addr) : Prop where
  oex : OexC K C
  mro : ∃ cd cdS, PySem.W.clsIn K C = some cd ∧ PySem.W.clsIn K S = some cdS ∧ cd.mro = .ref C :: cdS.mro
  init : PySem.W.findIn K (.ref S) "__init__" = some (some (.builtin "ValueError.__init__"))
  ve : PySem.W.mroIn K C (.type "ValueError") = some true
  op : PySem.W.nsIn K cStatics "thirdparty.any" = some none
  self : PySem.W.subIn K (.ref C) (.ref C) = some true
theorem along_of {K : PySem.W.Frag} {S : Addr} {cd : ClassData} {n : Str} {r : Option (Option Value)} (h : PySem.W.clsIn K S = some cd) (f : PySem.W.findIn K (.ref S) n = r) : PySem.W.alongIn K n cd.mro = r := by
  unfold PySem.W.clsIn at h
  unfold PySem.W.findIn at f
  split at h
  · rename_i q
    cases h
    dsimp only at f
    rw [q] at f
    exact f
  · cases h
theorem super_init {X : Cx} {pins : List (Addr × Obj)} {σ : L2.St} {H : Hp} {s : Shared} {a C S cc f c : Addr} {body : List Stmt} {p0 p1 p2 p3 p4 : Pos} {e : Expr} {es : List Expr} {ta : TA} {ar : Arg} {fd : FuncData} {oc od2 ocl : Value} {od odc odl : Option Addr} {osl slc sll : Array (Option Value)} {vs0 : Array Value} {file : Str} {tf : Tok}
    {Qn : Hp → Prop} {E : Value → Shared → Prop} (I : Inv X pins σ H s) (T : SupC X.K C S) (hks : X.env.kindOf "super" = some .globalImplicit) (hkc : X.env.kindOf "__class__" = some .free) (hfu : X.env.func = some f) (hf : X.K.lookup f = some ⟨oc, od, .func fd, osl⟩)
    (hp : (fd.params.posonlyargs ++ fd.params.args).head? = some ar) (hco : X.env.code = .ref c) (hcc : X.K.lookup c = some ⟨ocl, odc, .fields vs0, slc⟩) (hvs : vs0[2]? = some (.str file tf)) (hfile : ((X.prog.main.file : Str) == file) = true)
    (htop : (X.prog.main.scope.names.lookup ("super" : Str)).isSome = false) (hms : X.mg "super" = none) (hce : X.env.cells.lookup ("__class__" : Str) = some cc) (hcell : X.K.lookup cc = some ⟨od2, odl, .cell (some (.ref C)), sll⟩)
    (hN : X.N[0]? = some ar.arg) (hl0 : X.env.scope.names.lookup ar.arg = some .local) (h0 : σ[0]? = some (some (.ref a))) (ea : H a = some (exo a C none)) (ha : PA X (e :: es) ta)
    (h : ta σ H fun vs H1 => vs.length ≤ 1000 ∧ H1 a = some (exo a C none) ∧ Qn H1) (hE : ∀ e s, X.xe e s → E e s)
    (hev : ∃ pl : Sem Bool, eval (.Call (.Attribute (.Call (.Name "super" p0) [] [] p1) "__init__" p2) (e :: es) [] p3) X.env = (do
      let ov ← attributeBase (.Call (.Name "super" p0) [] [] p1) "__init__" X.env (eval (.Call (.Name "super" p0) [] [] p1) X.env)
      standAt p2.atName
      let (f, first) ← holding [ov] (getMethod ov "__init__" pl)
      callWith p3 f first (backTo p3 (starEach (e :: es) X.env)) []))
    (hse : starEach (e :: es) X.env = (false, eval e X.env) :: starEach es X.env) (hpl : (backTo p3 (starEach es X.env)).any (·.1) = false) (hi : interactive X.env = false)
    (hsw : swapsWith (.Call (.Attribute (.Call (.Name "super" p0) [] [] p1) "__init__" p2) (e :: es) [] p3) none p4.line X.env = pure false) :
    PySem.wpAt (model X.prog X.w) X.A (.func body X.env) (exec (.Expr (.Call (.Attribute (.Call (.Name "super" p0) [] [] p1) "__init__" p2) (e :: es) [] p3) p4) X.env) (fun fl s' => fl = .next ∧ ∃ H1, Inv X pins σ H1 s' ∧ Qn H1) E s := by
  obtain ⟨pl, hev⟩ := hev
  obtain ⟨cd, cdS, hcd, hcdS, hmro⟩ := T.mro
  obtain ⟨nm, q, N, bs, bm, sn, sub, ab, col, dd, k0, k1, k2, k3, k5, hC, hbm⟩ := T.oex.cls
  have hCh := I.kIn _ _ hC
  obtain ⟨t1, ho⟩ := exo_at I.hok ea
  refine ks_wpAt_Expr_any (ks_wpAt_MethodCall (pl := pl) (ks_wpAt_super_base hks hkc (by decide) hfu (I.kIn _ _ hf) rfl hp hco (I.kIn _ _ hcc) rfl hvs hfile htop ?_) hev) hi hsw
  obtain ⟨mb, hb1, hb2⟩ := I.mod.blt
  refine PySem.W.ks_loadName_global I.ok.kind hks (Calls.loadGlobal_builtin (by rw [I.ok.glob]; exact I.mod.glob.keeps I.bk) hms (by rw [I.ok.blt]; exact hb1.keeps I.bk) ((hb2 "super" (by decide)).trans (by decide +kernel)) ⟨rfl, ?_⟩)
  refine wpAny_loadName_free I.ok.kind hkc hce (show s.heap.IsCell cc (some (.ref C)) from ⟨_, I.kIn _ _ hcell, rfl⟩) ?_ (by decide)
  obtain ⟨m, hn, hloc⟩ := I.loc
  obtain ⟨u, ru, lk⟩ := hloc 0 ar.arg (.ref a) hN h0 (.inl hl0)
  obtain rfl : u = Value.ref a := ru
  have hma : m ar.arg = some (.ref a) := by
    rcases lk with ⟨_, hm⟩ | ⟨hk, _⟩
    · exact hm
    · have hk' : X.env.scope.names.lookup ar.arg = some .cell ∨ X.env.scope.names.lookup ar.arg = some .free := hk
      rw [hl0] at hk'
      rcases hk' with z | z <;> cases z
  refine wpAny_loadName_local I.ok.kind hl0 hn hma ?_
  refine ks_wpAny_isType_cls hCh rfl ⟨rfl, ?_⟩
  obtain ⟨hp0, g, d, tt, os⟩ := s
  refine ks_wpAny_call_super hCh rfl ho rfl (fun c z => by cases z) (PySem.W.looks_subIn I.kIn T.self) (fun h' eso k => ?_)
  have kin' : X.K.In h' := PySem.W.Frag.In.keeps I.kIn k
  have ho' := k _ _ ho
  have haC : a ≠ C := fun z => by
    subst z
    rw [hCh] at ho
    cases ho
  have hins : PySem.W.InstAt h' a { cls := .ref C, dict := none, data := .fields #[.ref t1, .none, .none, .none, .bool false, .none] } C none := ⟨ho', rfl, rfl, trivial⟩
  refine PySem.W.kxs_getMethod PySem.W.kxs_ValueError eso (PySem.W.looks_opaque kin' T.op) (l₀ := cd.mro) (l := cdS.mro) (fun A Q E s k q => wpAny_bind ((PySem.W.looks_clsIn kin' hcd) A _ E s k (wpAny_pure q))) (by rw [hmro]; simp [List.dropWhile_cons]) kin' (along_of hcdS T.init)
    (hins.type.andThen (PySem.W.looks_mroIn kin' T.ve)) haC (by decide) ?_
  -- the call
  have kk : ∀ b o, hp0.get? b = some o → (h'.push (PySem.W.kxs_mw "ValueError.__init__" a)).get? b = some o := fun b o z => Heap.get?_push_of_some _ (k b o z)
  have J0 : Inv X pins σ H ⟨h'.push (PySem.W.kxs_mw "ValueError.__init__" a), g, d, tt + 1, os⟩ := I.kept (t' := tt + 1) kk
  have hu : (h'.push (PySem.W.kxs_mw "ValueError.__init__" a)).get? h'.objs.size = some (PySem.W.kxs_mw "ValueError.__init__" a) := Heap.get?_push_size _ rfl
  have hle : hp0.objs.size ≤ h'.objs.size := Nat.le_of_lt (Heap.lt_size eso)
  have J : Inv X ((h'.objs.size, PySem.W.kxs_mw "ValueError.__init__" a) :: pins) σ H ⟨h'.push (PySem.W.kxs_mw "ValueError.__init__" a), g, d, tt + 1, os⟩ := J0.pins_of fun p hp => by
    rcases List.mem_cons.mp hp with z | z
    · subst z
      exact ⟨hu, I.hok.fresh hle, fun y => absurd (show X.env.locals < hp0.objs.size from I.lt) (by rw [← y]; exact Nat.not_lt.mpr hle), I.nofs hle, fun v y => by cases y⟩
    · exact J0.pin p (List.mem_append_right _ z)
  show wpAny (model X.prog X.w) X.A (callWith p3 (.ref h'.objs.size) [] (backTo p3 (starEach (e :: es) X.env)) []) _ E _
  have hargs : wpAny (model X.prog X.w) X.A (spliced (backTo p3 (starEach (e :: es) X.env))) (fun vs s' => PySem.W.KxsAt "ValueError.__init__" h'.objs.size a s'.heap ∧ wpAny (model X.prog X.w) X.A (call (.ref h'.objs.size) vs) (fun x s' => Flow.next = Flow.next ∧ ∃ H1, L2.Inv X pins σ H1 s' ∧ Qn H1) E s') E ⟨h'.push (PySem.W.kxs_mw "ValueError.__init__" a), g, d, tt + 1, os⟩ := by
    refine wpAny_mono (ha.run p3 _ _ σ H _ J h) (fun us s1 ⟨vs, H1, I1, r, hlen, ea1, q⟩ => ?_) hE
    have hu1 := (I1.pin (h'.objs.size, PySem.W.kxs_mw "ValueError.__init__" a) (List.mem_append_right _ (List.mem_cons_self ..))).1
    refine ⟨hu1, ?_⟩
    obtain ⟨t2, ho2⟩ := exo_at I1.hok ea1
    obtain ⟨h2, g2, d2, tt2, os2⟩ := s1
    have hus : us.length ≤ sizeLine := by
      rw [← Paired.length r]
      exact Nat.le_of_lt (small1000 hlen)
    refine mw_call (I1.kIn _ _ hC) ho2 hu1 hus fun h3 t3 k3 hx => ⟨rfl, ?_⟩
    have J3 := I1.write (t' := tt2) (x := a) (e := a) (o := exo a C none) (by rw [ea1]; exact True.intro) (.inl rfl) k3 ⟨_, hx⟩ (exo_ok hx)
    have eu : L2.upd H1 a (exo a C none) = H1 := by
      funext b
      by_cases hb : b = a
      · rw [hb, upd_same, ea1]
      · rw [upd_ne hb]
    rw [eu] at J3
    exact ⟨H1, J3.pins_of fun p hp => J3.pin p (List.mem_append_right _ (List.mem_cons_of_mem _ hp)), q⟩

  rw [hse] at hargs ⊢
  exact PySem.W.kxs_callWith (i := "ValueError.__init__") (x := a) (by show (false || (backTo p3 (starEach es X.env)).any (·.1)) = false; rw [hpl]; rfl) (Calls.evalArgs_plain hargs)
end Sa

set_option Elab.async false
set_option linter.all false
set_option maxRecDepth 100000
set_option maxHeartbeats 4000000
namespace Sa
open PySem PySem.Spec PyProof.Rows L2 NdefX
section
variable {P : Program} {w : World} {K : PySem.W.Frag} {mg : Str → Option Value} {base : Heap}
/-- an own __init__ that begins with super().__init__(..): its body, from the second statement on, by rules -/
theorem init_fn {F : NF} {f C S cc : Addr} {N ps : List Str} {k : Nat} {sp : Sp} {oc kV doc pm ct od2 ocl : Value} {od an odl odc : Option Addr} {osl sll slc : Array (Option Value)} {vs0 : Array Value} {file : Str} {tf : Tok} {ar : Arg} {p0 p1 p2 p3 p4 : Pos} {e : Expr} {es : List Expr} {rest : List Stmt}
    (lk : K.lookup f = some ⟨oc, od, .func (PySem.W.fnX F.name F.qual F.params F.body F.scope F.cl .none kV doc pm an (.ref F.c) ct), osl⟩) (hcd : PySem.W.codeIn K (.ref F.c) F.qual = true) (SC : NScope N ps ["__class__"] F.scope) (hcl : F.cl = [(("__class__" : Str), cc)])
    (hcell : K.lookup cc = some ⟨od2, odl, .cell (some (.ref C)), sll⟩) (T : SupC K C S) (hcc : K.lookup F.c = some ⟨ocl, odc, .fields vs0, slc⟩) (hvs : vs0[2]? = some (.str file tf)) (hfile : ((P.main.file : Str) == file) = true)
    (htop : (P.main.scope.names.lookup ("super" : Str)).isSome = false) (hms : mg "super" = none) (hks : F.scope.names.lookup ("super" : Str) = some .globalImplicit) (hp : (F.params.posonlyargs ++ F.params.args).head? = some ar) (hN : N[0]? = some ar.arg) (hl0 : F.scope.names.lookup ar.arg = some .local)
    (hb : F.body = .Expr (.Call (.Attribute (.Call (.Name "super" p0) [] [] p1) "__init__" p2) (e :: es) [] p3) p4 :: rest) (len : ∀ vs H Q E, sp vs H Q E → vs.length = ps.length)
    (hev : ∀ L : Addr, ∃ pl : Sem Bool, eval (.Call (.Attribute (.Call (.Name "super" p0) [] [] p1) "__init__" p2) (e :: es) [] p3) (envF F f L) = (do
      let ov ← attributeBase (.Call (.Name "super" p0) [] [] p1) "__init__" (envF F f L) (eval (.Call (.Name "super" p0) [] [] p1) (envF F f L))
      standAt p2.atName
      let (fn, first) ← holding [ov] (getMethod ov "__init__" pl)
      callWith p3 fn first (backTo p3 (starEach (e :: es) (envF F f L))) []))
    (hse : ∀ L : Addr, starEach (e :: es) (envF F f L) = (false, eval e (envF F f L)) :: starEach es (envF F f L)) (hpl : ∀ L : Addr, (backTo p3 (starEach es (envF F f L))).any (·.1) = false)
    (hi : ∀ L : Addr, interactive (envF F f L) = false) (hsw : ∀ L : Addr, swapsWith (.Call (.Attribute (.Call (.Name "super" p0) [] [] p1) "__init__" p2) (e :: es) [] p3) none p4.line (envF F f L) = pure false)
    (hread : ∀ (A : Around) (outer : List Env) (s : Shared) (H : Hp) (vs : List V) (Q : VK) (E : XK), sp vs H Q E → ∃ (a : Addr) (ta : TA) (u : TS), vs[0]? = some (.ref a) ∧ H a = some (exo a C none) ∧
      PA (ncx CX0 P w K mg base N F f A outer s H E) (e :: es) ta ∧ PSs (ncx CX0 P w K mg base N F f A outer s H E) rest u ∧
      ta (startF N vs [some (.ref C)]) H fun vs' H1 => vs'.length ≤ 1000 ∧ H1 a = some (exo a C none) ∧ u { nx := fun _ H' => Q .non H', rt := Q } (startF N vs [some (.ref C)]) H1) :
    FnOk P w K mg base CX0 (k + 1) f (PySem.W.fnX F.name F.qual F.params F.body F.scope F.cl .none kV doc pm an (.ref F.c) ct) ps sp := by
  refine ⟨len, fun A outer s H args us vs Q E hr e0 hbt r hsp => ?_⟩
  have hl := len _ _ _ _ hsp
  have lim : s.heap.NoLimit := e0.mod.nolimit.keeps fun b o e => (e0.bs b o e).1
  have kin : K.In s.heap := e0.mod.kin.keeps fun b o e => (e0.bs b o e).1
  obtain ⟨a, ta, u, hv0, ea, hPA, hPS, hq⟩ := hread A outer s H vs Q E hsp
  have CA : CellsAt F.cl ["__class__"] [some (.ref C)] s.heap H := by
    have hcc0 : H cc = none := by
      have hb0 : base.get? cc = some _ := e0.mod.kin _ _ hcell
      exact (e0.bs _ _ hb0).2
    refine ⟨rfl, fun y c z => ?_, fun x y c z1 z2 => ?_, fun i y z => ?_⟩
    · rw [hcl] at z
      have : c = cc := by
        simp only [List.lookup] at z
        split at z
        · exact (Option.some.inj z).symm
        · cases z
      subst this
      exact ⟨hcc0, _, _, kin _ _ hcell, rfl⟩
    · rw [hcl] at z1 z2
      have h1 : ∀ x : Str, List.lookup x [(("__class__" : Str), cc)] = some c → x = "__class__" := fun x z => by
        simp only [List.lookup] at z
        split at z
        · rename_i q
          exact eq_of_beq q
        · cases z
      rw [h1 x z1, h1 y z2]
    · match i, z with
      | 0, z =>
        have : y = "__class__" := (Option.some.inj z).symm
        subst this
        refine ⟨cc, by rw [hcl]; rfl, fun v hv => ?_⟩
        have : v = .ref C := by
          have := Option.some.inj (Option.some.inj hv)
          exact this.symm
        subst this
        exact ⟨_, rfl, _, kin _ _ hcell, rfl⟩
      | i + 1, z => simp at z
  refine ks_codeAny_call_defAt hr.depth (kin _ _ lk) rfl lim (PySem.W.codeRec_of kin hcd) rfl hbt SC.nocell (fun ⟨n, _⟩ hy => SC.par n (List.of_mem_zip hy).1) (fun h₀ hns kp => ?_) SC.co SC.gen SC.kind
  have I : Inv (ncx CX0 P w K mg base N F f A outer s H E) [] (startF N vs [some (.ref C)]) H { s with heap := h₀, toks := s.toks + (ps.zip us).length } := inv_startN SC hr.hd e0 hl r CA hns kp
  show PySem.wpAt (model P w) (A.deeper (envF F f s.heap.objs.size)) (.func F.body (envF F f s.heap.objs.size)) (execs F.body (envF F f s.heap.objs.size)) _ _ _
  have h0 : (startF N vs [some (.ref C)])[0]? = some (some (.ref a)) := by
    unfold startF
    have hlv : 0 < vs.length := by
      cases vs with
      | nil => simp at hv0
      | cons x r => simp
    rw [List.getElem?_append_left (by rw [List.length_map]; exact hlv), List.getElem?_map, hv0]
    rfl
  have key : PySem.wpAt (model P w) (A.deeper (envF F f s.heap.objs.size)) (.func F.body (envF F f s.heap.objs.size)) (exec (.Expr (.Call (.Attribute (.Call (.Name "super" p0) [] [] p1) "__init__" p2) (e :: es) [] p3) p4) (envF F f s.heap.objs.size)) _ _ _ :=
    super_init (X := ncx CX0 P w K mg base N F f A outer s H E) (pins := []) (S := S) (Qn := fun H1 => u { nx := fun _ H' => Q .non H', rt := Q } (startF N vs [some (.ref C)]) H1) (E := (ncx CX0 P w K mg base N F f A outer s H E).xe) I T hks (SC.frk _ (by simp)) rfl lk hp rfl hcc hvs hfile htop hms
      (by show List.lookup ("__class__" : Str) F.cl = some cc; rw [hcl]; rfl) hcell hN hl0 h0 ea hPA hq (fun _ _ z => z) (hev _) (hse _) (hpl _) (hi _) (hsw _)
  rw [show execs F.body (envF F f s.heap.objs.size) = execs (.Expr (.Call (.Attribute (.Call (.Name "super" p0) [] [] p1) "__init__" p2) (e :: es) [] p3) p4 :: rest) (envF F f s.heap.objs.size) by rw [hb]]
  refine ks_wpAt_execs_cons (PySem.wpAt_mono key (fun fl s' hs => ?_) fun e s' hs => hs)
  obtain ⟨rfl, H1, J, hu⟩ := hs
  refine PySem.wpAt_of_wpAny (wpAny_mono (hPS.run [] _ (startF N vs [some (.ref C)]) H1 _ J hu) (fun fl s'' hs => ?_) fun e s' hs => hs)
  have fin : ∀ {σ' : L2.St} {H' : Hp} {v : V} {u : Value}, Inv (ncx CX0 P w K mg base N F f A outer s H E) [] σ' H' s'' → L2.RelV v u → Q v H' → CE outer P w H s Q u s'' :=
    fun {σ' H' v u} J rv q => ⟨v, H', J.os, J.bare, J.base, J.hok, rv, q⟩
  cases fl with
  | ret u =>
    obtain ⟨v, σ', H', J, rv, q⟩ := hs
    exact fin J rv q
  | next =>
    obtain ⟨σ', H', J, q⟩ := hs
    exact fin (v := V.non) (u := Value.none) J rfl q
  | brk =>
    obtain ⟨_, _, _, q⟩ := hs
    exact False.elim q
  | cont =>
    obtain ⟨_, _, _, q⟩ := hs
    exact False.elim q
end
end Sa

set_option Elab.async false
set_option linter.all false
set_option maxRecDepth 100000
set_option maxHeartbeats 4000000
namespace Sa
open PySem PySem.Spec PySem.HandSPX
section
variable {A : Around} {M : Model} {E : Value → Shared → Prop} {h : Heap} {g : Array GenState} {d : Drawn} {t : Nat} {os : OsState}
variable {nm qn : Str} {C N : Addr} {bs bm bmB : List Value} {hdct : Bool} {sn : List Str} {sub : List Value} {ab : Bool} {col : Option Bool} {dd : Option Addr} {k0 k1 k2 k3 k5 : Option Value} {B newId initId : String}

theorem check_new_ownK (F : ExcBaseFacts B newId initId bmB) (hco : ∀ X : String, bm.contains (.type X) = bmB.contains (.type X)) {rst : List Value} {kw : List (Str × Value)} {Q : Unit → Shared → Prop}
    (hcl : h.get? C = some (excClassObj nm qn C N bs bm hdct sn sub ab col dd k0 k1 k2 k3 k5 newId)) (hq : Q () ⟨h, g, d, t, os⟩) : wpAny M A (checkBuiltinCall newId ⟨.ref C :: rst, kw⟩) Q E ⟨h, g, d, t, os⟩ := by
  have hct : (Value.ref C :: bm).contains (.type B) = true := by rw [List.contains_cons, hco, F.hasB, Bool.or_true]
  have hst := F.noStar
  simp only [checkBuiltinCall, F.newKind, F.newSplit, F.newRow]
  repeat (first | refine wpAny_loadPart_at hcl ?_ | (refine wpAny_isSubtype_exc hcl ?_; rw [hct]) | refine wpAny_staticBase_exc hcl ?_ | refine wpAny_madeBy_exc hcl ?_ | simp only [bne_self_eq_false, Bool.false_eq_true, if_false] | wp_step)
  exact hq
end
section
variable {w : World} {prog : Program} {A : Around} {E : Value → Shared → Prop} {R : Result → Shared → Prop} {h : Heap} {g : Array GenState} {d : Drawn} {t : Nat} {os : OsState}
variable {nm qn : Str} {C N : Addr} {bs bm bmB : List Value} {hdct : Bool} {sn : List Str} {sub : List Value} {ab : Bool} {col : Option Bool} {dd : Option Addr} {k0 k1 k2 k3 k5 : Option Value} {B newId initId : String}

theorem new_ownK (F : ExcBaseFacts B newId initId bmB) (hco : ∀ X : String, bm.contains (.type X) = bmB.contains (.type X)) {rst : List Value} {kw : List (Str × Value)}
    (hcl : h.get? C = some (excClassObj nm qn C N bs bm hdct sn sub ab col dd k0 k1 k2 k3 k5 newId))
    (hq : R (.ok (.ret (.ref (h.objs.size + 1)))) ⟨(h.push { cls := .type "tuple", data := .seq rst.toArray }).push
      { cls := .ref C, data := .fields #[.ref h.objs.size, .none, .none, .none, .bool false, .none] }, g, d, t, os⟩) (hre : rst.length ≤ sizeLine) :
    codeAny (model prog w) A (.builtin newId ⟨.ref C :: rst, kw⟩) R ⟨h, g, d, t, os⟩ := by
  have hen := F.ends
  have hb1 : (Value.ref C :: bm).contains (.type B) = true := by rw [List.contains_cons, hco, F.hasB, Bool.or_true]
  have hb2 : (Value.ref C :: bm).contains (.type "AttributeError") = false := by rw [List.contains_cons, hco, F.noAttr]; rfl
  have hb3 : (Value.ref C :: bm).contains (.type "NameError") = false := by rw [List.contains_cons, hco, F.noName]; rfl
  refine codeAny_builtinAt F.entry ?_
  unfold Builtin.«BaseException.__new__»
  refine wpAt_bind ?_
  show wpAt _ _ _ (stack >>= _) _ _ _
  refine wpAt_bind (wpAt_stack fun p below => wpAt_of_wpAny ?_)
  wp_walk
  refine wpAt_of_wpAny ?_
  rw [F.owner]
  repeat (first | with_reducible refine wpAny_madeHere_exc F.canon hcl ?_ | with_reducible refine wpAny_loadPart_at hcl ?_ | (with_reducible refine wpAny_isSubtype_exc hcl ?_; first | rw [hb1] | rw [hb2] | rw [hb3]) | wp_step)
  show R _ _
  rw [Heap.size_push]
  exact hq

theorem type_call_ownK (F : ExcBaseFacts B newId initId bmB) (hco : ∀ X : String, bm.contains (.type X) = bmB.contains (.type X)) {rst : List Value} {kw : List (Str × Value)} {fv : Value} {Q : Fin → Shared → Prop}
    (hcl : h.get? C = some (excClassObj nm qn C N bs bm hdct sn sub ab col dd k0 k1 k2 k3 k5 newId))
    (hi : W.Looks (model prog w) h (typeLookup (.ref C) "__init__") (some fv)) (hb : ∀ self, W.Looks (model prog w) h (bindSpecial fv self) (fv, [self])) (hre : rst.length ≤ sizeLine)
    (hq : codeAny (model prog w) A (.call fv ⟨.ref (h.objs.size + 1) :: rst, kw⟩)
      (fun r s' => match r with | .ok (.ret v) => v = .none ∧ Q (.done (.ret (.ref (h.objs.size + 1)))) s' | .ok _ => False | .error e => E e s')
      ⟨(h.push (W.kdv_tup rst)).push (excO C h.objs.size), g, d, t, os⟩) :
    wpAny (model prog w) A (Builtin.«type.__call__» ⟨.ref C :: rst, kw⟩) Q E ⟨h, g, d, t, os⟩ := by
  repeat (first | with_reducible refine wpAny_loadPart_at hcl ?_ | with_reducible refine wpAny_madeBy_exc hcl ?_ | wp_step)
  refine codeAny_call_builtin_code (Code.quiet_builtin _ F.quiet) (check_new_ownK F hco hcl ?_)
  refine new_ownK F hco hcl ?_ hre
  show wpAny _ _ _ _ _ _
  have k : ∀ b o, h.get? b = some o → ((h.push (W.kdv_tup rst)).push (excO C h.objs.size)).get? b = some o := fun b o e => Heap.get?_push_of_some _ (Heap.get?_push_of_some _ e)
  have hcl1 := k _ _ hcl
  have hgt : ((h.push (W.kdv_tup rst)).push (excO C h.objs.size)).get? (h.objs.size + 1) = some (excO C h.objs.size) := by heap_get
  have hb4 : (Value.ref C :: bm).contains (.ref C) = true := by simp
  have i1 := hi.keeps k
  have b1 := (hb (.ref (h.objs.size + 1))).keeps k
  unfold isInstance
  repeat (first | with_reducible refine wpAny_loadPart_at hgt ?_ | (with_reducible refine wpAny_isSubtype_exc hcl1 ?_; rw [hb4]) | wp_step)
  show wpAny _ _ (typeLookup (.ref C) _) _ _ _
  refine i1.at ?_
  refine wpAny_holding (wpAny_bind (b1.at ?_))
  refine wpAny_bind (wpAny_call (codeAny_mono hq fun r s' z => ?_))
  rcases r with e | (v | _ | _ | _) <;> first | exact z | exact z.elim | skip
  obtain ⟨rfl, z⟩ := z
  first
    | exact wpAny_pure (wpAny_pure z)
    | (wp_walk; exact z)

theorem call_ownK (F : ExcBaseFacts B newId initId bmB) (hco : ∀ X : String, bm.contains (.type X) = bmB.contains (.type X)) {rst : List Value} {kw : List (Str × Value)} {fv : Value}
    (hcl : h.get? C = some (excClassObj nm qn C N bs bm hdct sn sub ab col dd k0 k1 k2 k3 k5 newId))
    (hi : W.Looks (model prog w) h (typeLookup (.ref C) "__init__") (some fv)) (hb : ∀ self, W.Looks (model prog w) h (bindSpecial fv self) (fv, [self])) (hre : rst.length ≤ sizeLine)
    (hq : codeAny (model prog w) (A.under (.builtin "type.__call__" ⟨.ref C :: rst, kw⟩)) (.call fv ⟨.ref (h.objs.size + 1) :: rst, kw⟩) (W.InitBack (h.objs.size + 1) R)
      ⟨(h.push (W.kdv_tup rst)).push (excO C h.objs.size), g, d, t, os⟩) :
    codeAny (model prog w) A (.call (.ref C) ⟨rst, kw⟩) R ⟨h, g, d, t, os⟩ := by
  have w1 := tc_lookup
  have w2 := tc_bind (.ref C)
  have hty : (⟨h, g, d, t, os⟩ : Shared).TypeIs (.ref C) "type" := ⟨_, hcl, rfl⟩
  refine codeAny_of_tree ?_
  show wpAny _ _ (callAny (.ref C) _) _ _ _
  repeat (any_goals (first | assumption | with_reducible refine wpAny_loadPart_at hcl ?_ | wp_step))
  refine ⟨rfl, ?_⟩
  refine codeAny_call_builtin_at (Code.quiet_builtin _ (by decide +kernel)) entry_typeCall (wpAny_check_type_call_sub hcl (type_call_ownK F hco hcl hi hb hre ?_))
  refine codeAny_mono hq fun r s' z => ?_
  rcases r with e | (v | _ | _ | _) <;> exact z

end
end Sa

set_option Elab.async false
set_option linter.all false
set_option maxRecDepth 100000
set_option maxHeartbeats 4000000
namespace Sa
open PySem PySem.Spec PyProof.Rows L2 NdefX
section
variable {X : Cx} {k n : Nat} {C fI : Addr} {fd : FuncData} {ps ks : List Str} {sp : Sp} {x : Str} {p pos : Pos} {e : Expr} {es : List Expr} {kws : List Keyword} {t tk : TA} {g : List Value → List Value → List Value} {gV : List V → List V → List V}
/-- an own exception is made as a value -/
theorem run_mkE {pins : List (Addr × Obj)} {σ : L2.St} {H : Hp} {s : Shared} {Q : VK} {us ws : List Value} {vs zs : List V} (T : OexC X.K C) (iC : PySem.W.findIn X.K (.ref C) "__init__" = some (some (.ref fI))) (tI : PySem.W.typeIn X.K (.ref fI) = some (.type "function"))
    (F1 : FnOk X.prog X.w X.K X.mg X.base CX0 k fI fd ps sp) (hr : Room (k + 1) X.A) (hb : KBn X.K fd ps (n + 1) ks g gV) (I : Inv X pins σ H s) (r : Vals vs us) (rz : Vals zs ws) (l1 : vs.length = n) (l2 : zs.length = ks.length) (hn : n ≤ 1000)
    (h : ∀ a, H a = none → sp (gV (.ref a :: vs) zs) (L2.upd H a (exo a C none)) (fun v H2 => v = .non ∧ Q (.ref a) H2) E0) :
    wpAny (model X.prog X.w) X.A (call (.ref C) us (ks.zip ws)) (EP X pins σ Q) X.xe s := by
  obtain ⟨nm, q, N, bs, bm, sn, sub, ab, col, dd, k0, k1, k2, k3, k5, hC, hbm⟩ := T.cls
  obtain ⟨hp, gn, dr, tk, os⟩ := s
  have hsz : hp.objs.size ≤ hp.objs.size + 1 := Nat.le_succ _
  have hn1 : H (hp.objs.size + 1) = none := I.hok.fresh hsz
  have hq := h (hp.objs.size + 1) hn1
  have kk : ∀ b o, hp.get? b = some o → ((hp.push (PySem.W.kdv_tup us)).push (PySem.HandSPX.excO C hp.objs.size)).get? b = some o := fun b o e => Heap.get?_push_of_some _ (Heap.get?_push_of_some _ e)
  have hget : ((hp.push (PySem.W.kdv_tup us)).push (PySem.HandSPX.excO C hp.objs.size)).get? (hp.objs.size + 1) = some (PySem.HandSPX.excO C hp.objs.size) := by heap_get
  have I2 : Inv X pins σ (L2.upd H (hp.objs.size + 1) (exo (hp.objs.size + 1) C none)) ⟨(hp.push (PySem.W.kdv_tup us)).push (PySem.HandSPX.excO C hp.objs.size), gn, dr, tk, os⟩ :=
    I.laid (t' := tk) (a := hp.objs.size + 1) (o := exo (hp.objs.size + 1) C none) (h' := (hp.push (PySem.W.kdv_tup us)).push (PySem.HandSPX.excO C hp.objs.size)) kk hsz (exo_ok hget)
  have r1 : Vals (V.ref (hp.objs.size + 1) :: vs) (Value.ref (hp.objs.size + 1) :: us) := .cons rfl r
  have r2 := hb.rel r1 rz
  have e1 : (Value.ref (hp.objs.size + 1) :: us).length = n + 1 := r1.length.symm.trans (congrArg Nat.succ l1)
  have e2 : ws.length = ks.length := rz.length.symm.trans l2
  have hus : us.length ≤ sizeLine := by
    rw [← Paired.length r]
    exact Nat.le_of_lt (small1000 (by omega))
  refine wpAny_call (call_ownK F.excBase_ValueError (fun Y => PySem.HandSPX.refsVE_contains Y bm hbm) (I.kIn _ _ hC) (PySem.W.looks_findIn I.kIn iC) (fun self => PySem.W.bind_fn I.kIn self tI) hus
    (codeAny_mono (F1.run _ X.stack _ _ ⟨Value.ref (hp.objs.size + 1) :: us, ks.zip ws⟩ (g (Value.ref (hp.objs.size + 1) :: us) ws) _ _ E0 (hr.make C us (ks.zip ws)) (I2.env0.make C us (ks.zip ws)) (hb.to _ (Value.ref (hp.objs.size + 1) :: us) ws I2.kIn e1 e2) r2 hq) fun rs s' hq' => ?_))
  cases rs with
  | error er => exact False.elim hq'
  | ok fl =>
    cases fl with
    | ret u =>
      obtain ⟨v, H', I3, rv, ev, q3⟩ := I2.after hq'
      subst ev
      exact ⟨rv, ⟨V.ref (hp.objs.size + 1), H', I3, rfl, q3⟩⟩
    | next => exact False.elim hq'
    | brk => exact False.elim hq'
    | cont => exact False.elim hq'
def tMkE (C : Addr) (n m : Nat) (sp : Sp) (gV : List V → List V → List V) (t tk : TA) : TE := fun σ H Q => t σ H fun vs H1 => tk σ H1 fun zs H2 => vs.length = n ∧ zs.length = m ∧
  ∀ a, H2 a = none → sp (gV (.ref a :: vs) zs) (L2.upd H2 a (exo a C none)) (fun v H3 => v = .non ∧ Q (.ref a) H3) E0
theorem pe_mkE (T : OexC X.K C) (iC : PySem.W.findIn X.K (.ref C) "__init__" = some (some (.ref fI))) (tI : PySem.W.typeIn X.K (.ref fI) = some (.type "function")) (F1 : FnOk X.prog X.w X.K X.mg X.base CX0 k fI fd ps sp) (hr : Room (k + 1) X.A) (hg : Gl X x) (hm : X.mg x = some (.ref C))
    (hb : KBn X.K fd ps (n + 1) [] g gV) (hn : n ≤ 1000) (ha : PA X (e :: es) t) (hdb : (x == ("__debug__" : Str)) = false := by decide) (he : starEach (e :: es) X.env = (false, eval e X.env) :: starEach es X.env := by rfl) (hpl : (backTo pos (starEach es X.env)).any (·.1) = false := by rfl) :
    PE X (.Call (.Name x p) (e :: es) [] pos) (tMkE C n 0 sp gV t tNil) := by
  refine ⟨fun pins s σ H Q I h => ?_⟩
  refine wpAny_Call_Name_kw (ld_glob I hg hm ?_ hdb)
  refine PySem.W.callWith_K (h₀ := X.base) I.ok.mod.kin T.kC (thn (ha.run pos pins s σ H _ I h) fun us s1 ⟨vs, H1, I1, r, l1, _, q⟩ => ⟨I1.kIn, ?_⟩) he hpl
  exact run_mkE (ws := []) (zs := []) T iC tI F1 hr hb I1 r .nil l1 rfl hn q
theorem pe_mkEK (T : OexC X.K C) (iC : PySem.W.findIn X.K (.ref C) "__init__" = some (some (.ref fI))) (tI : PySem.W.typeIn X.K (.ref fI) = some (.type "function")) (F1 : FnOk X.prog X.w X.K X.mg X.base CX0 k fI fd ps sp) (hr : Room (k + 1) X.A) (hg : Gl X x) (hm : X.mg x = some (.ref C))
    (hb : KBn X.K fd ps (n + 1) ks g gV) (hn : n ≤ 1000) (ha : PA X (e :: es) t) (hkw : PK X kws tk) (hall : (backToKw pos (keywordEach kws X.env)).all (·.1.isSome) = true := by rfl) (hks : (backToKw pos (keywordEach kws X.env)).filterMap (·.1) = ks := by rfl)
    (hdb : (x == ("__debug__" : Str)) = false := by decide) (he : starEach (e :: es) X.env = (false, eval e X.env) :: starEach es X.env := by rfl) (hpl : ((backTo pos (starEach (e :: es) X.env)).any (·.1) || (backToKw pos (keywordEach kws X.env)).any (·.1.isNone)) = false := by rfl) :
    PE X (.Call (.Name x p) (e :: es) kws pos) (tMkE C n ks.length sp gV t tk) := by
  refine ⟨fun pins s σ H Q I h => ?_⟩
  refine wpAny_Call_Name_kw (ld_glob I hg hm ?_ hdb)
  refine PySem.W.callWith_KW (h₀ := X.base) I.ok.mod.kin T.kC hall (thn (ha.run pos pins s σ H _ I h) fun us s1 ⟨vs, H1, I1, r, q⟩ => ?_) hpl he
  refine thn (hkw.run pos pins s1 σ H1 _ I1 q) fun ws s2 ⟨zs, H2, I2, rz, l1, l2, q2⟩ => ⟨I2.kIn, ?_⟩
  rw [hks]
  exact run_mkE T iC tI F1 hr hb I2 r rz l1 l2 hn q2
theorem pe_mkEK0 (T : OexC X.K C) (iC : PySem.W.findIn X.K (.ref C) "__init__" = some (some (.ref fI))) (tI : PySem.W.typeIn X.K (.ref fI) = some (.type "function")) (F1 : FnOk X.prog X.w X.K X.mg X.base CX0 k fI fd ps sp) (hr : Room (k + 1) X.A) (hg : Gl X x) (hm : X.mg x = some (.ref C))
    (hb : KBn X.K fd ps 1 ks g gV) (hkw : PK X kws tk) (hall : (backToKw pos (keywordEach kws X.env)).all (·.1.isSome) = true := by rfl) (hks : (backToKw pos (keywordEach kws X.env)).filterMap (·.1) = ks := by rfl)
    (hdb : (x == ("__debug__" : Str)) = false := by decide) (hpl : ((backTo pos (starEach [] X.env)).any (·.1) || (backToKw pos (keywordEach kws X.env)).any (·.1.isNone)) = false := by rfl) :
    PE X (.Call (.Name x p) [] kws pos) (tMkE C 0 ks.length sp gV tNil tk) := by
  refine ⟨fun pins s σ H Q I h => ?_⟩
  refine wpAny_Call_Name_kw (ld_glob I hg hm ?_ hdb)
  refine PySem.W.callWith_KW0 (h₀ := X.base) I.ok.mod.kin T.kC hall ?_ hpl
  refine thn (hkw.run pos pins s σ H _ I h) fun ws s2 ⟨zs, H2, I2, rz, l1, l2, q2⟩ => ⟨I2.kIn, ?_⟩
  rw [hks]
  exact run_mkE (us := []) (vs := []) T iC tI F1 hr hb I2 .nil rz rfl l2 (Nat.zero_le _) q2
/-- C() of a class without an __init__ of its own -/
def tMk0 (C : Addr) : TE := fun σ H Q => ∀ a, H a = none → Q (.ref a) (L2.upd H a (exo a C none))
theorem pe_mk0 (T : OexC X.K C) (iC : PySem.W.findIn X.K (.ref C) "__init__" = some (some (.builtin "ValueError.__init__"))) (hg : Gl X x) (hm : X.mg x = some (.ref C)) (hdb : (x == ("__debug__" : Str)) = false := by decide) :
    PE X (.Call (.Name x p) [] [] pos) (tMk0 C) := by
  refine ⟨fun pins s σ H Q I h => ?_⟩
  refine wpAny_Call_Name_kw (ld_glob I hg hm ?_ hdb)
  refine PySem.W.callWith_K0 I.kIn T.kC ?_
  obtain ⟨nm, q, N, bs, bm, sn, sub, ab, col, dd, k0, k1, k2, k3, k5, hC, hbm⟩ := T.cls
  obtain ⟨hp, gn, dr, tk, os⟩ := s
  have hsz : hp.objs.size ≤ hp.objs.size + 1 := Nat.le_succ _
  have hn1 : H (hp.objs.size + 1) = none := I.hok.fresh hsz
  have kk : ∀ b o, hp.get? b = some o → ((hp.push (PySem.W.kdv_tup [])).push (PySem.HandSPX.excO C hp.objs.size)).get? b = some o := fun b o e => Heap.get?_push_of_some _ (Heap.get?_push_of_some _ e)
  have hget : ((hp.push (PySem.W.kdv_tup [])).push (PySem.HandSPX.excO C hp.objs.size)).get? (hp.objs.size + 1) = some (PySem.HandSPX.excO C hp.objs.size) := by heap_get
  have I2 : Inv X pins σ (L2.upd H (hp.objs.size + 1) (exo (hp.objs.size + 1) C none)) ⟨(hp.push (PySem.W.kdv_tup [])).push (PySem.HandSPX.excO C hp.objs.size), gn, dr, tk, os⟩ :=
    I.laid (t' := tk) (a := hp.objs.size + 1) (o := exo (hp.objs.size + 1) C none) (h' := (hp.push (PySem.W.kdv_tup [])).push (PySem.HandSPX.excO C hp.objs.size)) kk hsz (exo_ok hget)
  have hT2 := fun Y => PySem.HandSPX.refsVE_contains Y bm hbm
  refine wpAny_call (call_ownK (fv := .builtin "ValueError.__init__") (rst := []) (kw := []) F.excBase_ValueError hT2 (I.kIn _ _ hC) (PySem.W.looks_findIn I.kIn iC) (fun self => ?_) (Nat.zero_le _) ?_)
  · exact PySem.W.Looks.of_pure (F.excBase_ValueError.init.bind _)
  · refine PySem.HandSPX.init_base F.excBase_ValueError hT2 (kk _ _ (I.kIn _ _ hC)) hget (Nat.zero_le _) fun h' t1 k3 hx => ?_
    have J3 := I2.write (t' := tk) (x := hp.objs.size + 1) (e := hp.objs.size + 1) (o := exo (hp.objs.size + 1) C none) (by rw [upd_same]; exact True.intro) (.inl rfl) k3 ⟨_, hx⟩ (exo_ok hx)
    rw [upd_upd] at J3
    exact ⟨rfl, ⟨V.ref (hp.objs.size + 1), _, J3, rfl, h _ hn1⟩⟩
end
end Sa

set_option Elab.async false
set_option linter.all false
set_option maxRecDepth 100000
set_option maxHeartbeats 4000000
namespace Sa
open PySem PySem.Spec PyProof.Rows PySem.W
section
variable {prog : Program} {w : World} {A : Around} {E : Value → Shared → Prop} {s : Shared} {K : Frag} {x D : Addr} {ox : Obj} {od : Option Obj}
theorem findObj_dataX {C : Addr} {name : Str} {a g : Value} (hc : (clsIn K C).isSome = true) (ha : findIn K (.ref C) name = some (some a)) (hg : specialIn K a "__get__" = some (some g)) (ht : takesIn K a = some true) : findObj K C od name = some (.bind g a) := by
  obtain ⟨cdX, hcX⟩ := Option.isSome_iff_exists.mp hc
  unfold findObj
  rw [hcX, Option.bind_some, ha, Option.bind_some]
  simp [hg, ht]
theorem class_exX {Q : Option Value → Shared → Prop} (T : L2.ExcC K D) (hI : K.In s.heap) (I : InstAt s.heap x ox D od) (hq : Q (some (.ref D)) { s with toks := s.toks + 1 }) : wpAny (model prog w) A (getAttr? (.ref x) "__class__") Q E s := by
  have hf : findObj K D od "__class__" = some (.bind (.builtin "getset_descriptor.__get__") (.builtin "object.__class__")) := findObj_dataX (by obtain ⟨cd, hc, _⟩ := any_some T.hd; rw [hc]; rfl) T.ha T.hn T.ht
  obtain ⟨hp, g, d, t, os⟩ := s
  have Lt := I.type (M := model prog w)
  have Lg := looks_findIn (M := model prog w) hI T.hg
  have Lh := looks_findIn (M := model prog w) hI T.hk
  have Lf := looks_find (M := model prog w) hI I hf
  have isB : Looks (model prog w) hp (isInstance (.ref x) (.type "BaseException")) true := Lt.andThen (looks_subIn hI T.hs)
  have z0 : (false && onTheHeap (Value.builtin "BaseException.__getattribute__")) = false := rfl
  have z2 : (Value.builtin "BaseException.__getattribute__" == Value.builtin "object.__getattribute__") = false := by decide +kernel
  have z1 : (onTheHeap (Value.ref D) && Value.builtin "BaseException.__getattribute__" == Value.builtin "object.__getattribute__") = false := by rw [z2]; rfl
  unfold getAttr? getAttrBy? getAttrBy
  refine wpAny_bind (wpAny_mkText (wpAny_bind (wpAny_attempt (wpAny_holding (wpAny_bind (Lt.at (wpAny_bind (Lg.at ?_))))))))
  show wpAny _ _ (if (onTheHeap (Value.ref D) && Value.builtin "BaseException.__getattribute__" == Value.builtin "object.__getattribute__") = true then _ else _) _ _ _
  rw [z1, if_neg Bool.false_ne_true]
  unfold getAttrByItsOwn hookBefore
  refine wpAny_bind ?_
  rw [if_pos (show onTheHeap (Value.ref D) = true from rfl)]
  refine Lh.at ?_
  refine wpAny_bind (wpAny_attempt (wpAny_holding ?_))
  unfold callGetattribute
  rw [z0, if_neg Bool.false_ne_true]
  unfold boundAndCalled
  rw [PySem.F.excAttr_ValueError.ga.bind (Value.ref x)]
  refine wpAny_bind (wpAny_pure ?_)
  show wpAny _ _ (call (.builtin "BaseException.__getattribute__") [.ref x, .str "__class__" t]) _ _ _
  refine wpAny_call (codeAny_call_builtin PySem.F.excAttr_ValueError.ga.plain PySem.F.entry_bexc_ga (?_))
  refine @check_slot (model prog w) _ _ ⟨hp, g, d, t + 1, os⟩ "BaseException.__getattribute__" "BaseException" "__getattribute__" (.ref x) [.str "__class__" t] [] _ (by decide +kernel) (by decide +kernel) isB (PySem.F.args_bexc_ga (.ref x) (.str "__class__" t)) ?_
  unfold Builtin.«object.__getattribute__»
  refine wpAny_bind (wpAny_of_eq (a := ((Value.ref x : Value), [Value.str "__class__" t])) (by (first | rfl | (simp only [slotArgs]; rfl))) ?_)
  refine wpAny_bind (wpAny_pure (wpAny_bind (Lt.at (wpAny_bind (Lf.at ?_)))))
  show wpAny _ _ (holding [Value.builtin "object.__class__"] (call (.builtin "getset_descriptor.__get__") [.builtin "object.__class__", .ref x, .ref D]) >>= ret) _ _ _
  refine wpAny_bind (wpAny_holding (wpAny_call (class_get (s := ⟨hp, g, d, t + 1, os⟩) (ox := ox) (od := od) hI I T.hm ?_)))
  refine wpAny_pure ?_
  show wpAny _ _ (handedOut (.ref D)) _ _ _
  rw [handedOut_of (v := Value.ref D) rfl]
  first
    | exact wpAny_pure (wpAny_pure hq)
    | exact wpAny_pure hq
    | exact wpAny_pure (wpAny_bind (wpAny_pure (wpAny_pure hq)))
theorem kitx_exX (T : L2.ExcC K D) : KitX K (.ref x) (.ref D) (fun h => ∃ od, InstAt h x ox D od) where
  ty := fun _ _ _ ⟨_, I⟩ => I.type
  it := fun _ _ hI _ => by
    obtain ⟨cdD, hcD, _⟩ := any_some T.hd
    unfold clsIn at hcD
    split at hcD
    · rename_i ho
      intro A' Q' E' s' k q
      unfold isType loadHead
      exact wpAny_bind (wpAny_loadPart (k _ _ (hI _ _ ho)) (wpAny_pure q))
    · cases hcD
  ne := fun h tp dd its n sl hI htp => by
    obtain ⟨cdD, hcD, _⟩ := any_some T.hd
    refine Bool.eq_false_iff.mpr fun q => ?_
    have eD : D = tp := Value.ref.inj (beq_iff_eq.mp q)
    subst eD
    unfold clsIn at hcD
    split at hcD
    · rename_i ho
      have z := (hI _ _ ho).symm.trans htp
      cases z
    · cases hcD
  ca := fun hI ⟨_, I⟩ k => class_exX T hI I k
end
end Sa
namespace Sa
open PySem PySem.Spec PyProof.Rows L2
theorem inst_exo {P : Program} {w : World} {H : Hp} {h : Heap} {a C : Addr} {d : Option Addr} (hok : HOk P w H h) (ea : H a = some (exo a C d)) (ed : ∀ dx, d = some dx → ∃ fs, H dx = some (exd dx fs)) : ∃ (ox : Obj) (od : Option Obj), PySem.W.InstAt h a ox C od := by
  obtain ⟨t1, ho⟩ := exo_at hok ea
  cases d with
  | none => exact ⟨_, none, ho, rfl, rfl, trivial⟩
  | some dx =>
    obtain ⟨fs, e⟩ := ed dx rfl
    obtain ⟨mA, hns, _⟩ := exd_at hok e
    obtain ⟨o, es, ep, e1, _⟩ := hns
    exact ⟨_, some o, ho, rfl, rfl, e1⟩
/-- isinstance(e, c), e an exception that is a value -/
def rIsX (K : PySem.W.Frag) : List V → Hp → VK → Prop := fun xs H Q => ∃ (a D : Addr) (d : Option Addr) (c : V) (cv : Value) (b : Bool), xs = [.ref a, c] ∧ H a = some (exo a D d) ∧ (∀ dx, d = some dx → ∃ fs, H dx = some (exd dx fs)) ∧ ExcC K D ∧ (∀ u, RelV c u → u = cv) ∧ PySem.W.kitOne K (.ref D) cv = some b ∧ Q (.bl b) H
theorem call_isX {X : Cx} : CallR X (.builtin "isinstance") (rIsX X.K) := by
  intro pins s σ H xs us Q I r h
  obtain ⟨a, D, d, c, cv, b, rfl, ea, ed, T, hcv, e, q⟩ := h
  cases r with
  | cons rx rr =>
    cases rr with
    | cons rt rr =>
      cases rr
      cases rx
      obtain rfl := hcv _ rt
      obtain ⟨ox, od, J⟩ := inst_exo I.hok ea ed
      exact PySem.W.kia_one (kitx_exX (ox := ox) T) I.kIn ⟨od, J⟩ e (fun z => nomatch z) fun tk => ⟨.bl b, H, I.kept (t' := tk) fun _ _ z => z, rfl, q⟩
/-- e.f of an exception that is a value -/
def tExf (K : PySem.W.Frag) (f : Str) (te : TE) : TE := fun σ H Q => te σ H fun x H1 => ∃ (a C dx : Addr) (fs : List (Str × V)) (v : V), x = .ref a ∧ XfC K C ∧ PySem.W.findIn K (.ref C) f = some none ∧ H1 a = some (exo a C (some dx)) ∧ H1 dx = some (exd dx fs) ∧ fs.lookup f = some v ∧ Q v H1
theorem pe_exf {X : Cx} {e : Expr} {te : TE} {pos : Pos} {n : Str} (he : PE X e te) (hb : attributeBase e n X.env (eval e X.env) = eval e X.env := by rfl) : PE X (.Attribute e n pos) (tExf X.K n te) := by
  refine ⟨fun pins s σ H Q I h => ?_⟩
  refine attr_of hb (thn (he.run pins s σ H _ I h) fun u s1 hh => ?_)
  obtain ⟨x, H1, I1, rx, a, C, dx, fs, v, rfl, T, hno, ea, ed, l, q⟩ := hh
  obtain rfl : u = Value.ref a := rx
  obtain ⟨t1, ho⟩ := exo_at I1.hok ea
  obtain ⟨mA, hns, hr⟩ := exd_at I1.hok ed
  obtain ⟨od, hod, hl⟩ := lookIn_ns hns
  obtain ⟨u, hu, ru⟩ := RelO.some_of (v := v) (o := mA n) (by rw [← l]; exact hr n)
  have J : PySem.W.InstAt s1.heap a _ C (some od) := ⟨ho, rfl, rfl, hod⟩
  exact HandSPX.exc_get I1.kIn J T.ga T.gg T.exC (PySem.W.findObj_own T.hdC hno rfl (by rw [hl, hu])) (handed_of ru) ⟨v, H1, I1.tok _, ru, q⟩
end Sa

set_option Elab.async false
set_option linter.all false
set_option maxRecDepth 100000
set_option maxHeartbeats 4000000
namespace Sa
open PySem PySem.Spec PyProof.Rows L2
def topS (i : Nat) : Stmt := PySem.Challenge.pw_saidanew_k01_errors_and_their_values.main.body.getD i (.Pass ⟨0, 0, 0, 0⟩)
/-- an own error class of the text, under S -/
structure XCls (K : PySem.W.Frag) (C S : Addr) : Prop where
  oex : OexC K C
  exc : ExcC K C
  xf : XfC K C
  sup : SupC K C S
  toS : PySem.W.kitOne K (.ref C) (.ref S) = some true
  toV : PySem.W.kitOne K (.ref C) (.type "ValueError") = some true
abbrev s__law_feed_of : Stmt := topS 15
theorem sc__law_feed_of : FnScope ["_law_script", "_law_k", "_law_cell", "_law_great"] ["_law_script", "_law_k"] (defScope s__law_feed_of) := ⟨rfl, rfl, rfl, by decide +kernel, rfl, by decide +kernel, by decide +kernel⟩
abbrev s__law_draw : Stmt := topS 16
theorem sc__law_draw : FnScope ["_law_feed", "_law_many", "_law_digit"] ["_law_feed", "_law_many"] (defScope s__law_draw) := ⟨rfl, rfl, rfl, by decide +kernel, rfl, by decide +kernel, by decide +kernel⟩
abbrev s__law_pick : Stmt := topS 17
theorem sc__law_pick : FnScope ["_law_feed", "_law_items"] ["_law_feed", "_law_items"] (defScope s__law_pick) := ⟨rfl, rfl, rfl, by decide +kernel, rfl, by decide +kernel, by decide +kernel⟩
abbrev s__law_same : Stmt := topS 18
theorem sc__law_same : FnScope ["_law_found", "_law_due", "_law_one", "_law_other"] ["_law_found", "_law_due"] (defScope s__law_same) := ⟨rfl, rfl, rfl, by decide +kernel, rfl, by decide +kernel, by decide +kernel⟩
abbrev s__law_any_value : Stmt := topS 19
theorem sc__law_any_value : FnScope ["_law_feed", "_law_deep", "_law_form", "_law_some", "_law_turn"] ["_law_feed", "_law_deep"] (defScope s__law_any_value) := ⟨rfl, rfl, rfl, by decide +kernel, rfl, by decide +kernel, by decide +kernel⟩
abbrev s__law_made : Stmt := topS 20
theorem sc__law_made : FnScope ["_law_a", "_law_b", "_law_one", "_law_two", "_law_three", "_law_four", "_law_five", "_law_six", "_law_seven", "_law_found"] ["_law_a", "_law_b"] (defScope s__law_made) := ⟨rfl, rfl, rfl, by decide +kernel, rfl, by decide +kernel, by decide +kernel⟩
abbrev s__law_sorts : Stmt := topS 21
theorem sc__law_sorts : FnScope ["_law_e", "_law_found"] ["_law_e"] (defScope s__law_sorts) := ⟨rfl, rfl, rfl, by decide +kernel, rfl, by decide +kernel, by decide +kernel⟩
abbrev s__law_raised : Stmt := topS 22
theorem sc__law_raised : FnScope ["_law_form", "_law_a", "_law_found", "_law_e"] ["_law_form", "_law_a"] (defScope s__law_raised) := ⟨rfl, rfl, rfl, by decide +kernel, rfl, by decide +kernel, by decide +kernel⟩
abbrev s_law : Stmt := topS 23
theorem sc_law : FnScope ["_law_script", "_law_k", "_law_feed", "_law_a", "_law_b", "_law_index", "_law_error", "_law_kept", "_law_due", "_law_form", "_law_at"] ["_law_script"] (defScope s_law) := ⟨rfl, rfl, rfl, by decide +kernel, rfl, by decide +kernel, by decide +kernel⟩
structure Top (K : PySem.W.Frag) (mg : Str → Option Value) where
  len_n : mg "len" = none
  isinstance_n : mg "isinstance" = none
  bool_n : mg "bool" = none
  tuple_n : mg "tuple" = none
  list_n : mg "list" = none
  range_n : mg "range" = none
  all_n : mg "all" = none
  zip_n : mg "zip" = none
  max_n : mg "max" = none
  min_n : mg "min" = none
  enumerate_n : mg "enumerate" = none
  ValueError_n : mg "ValueError" = none
  super_n : mg "super" = none
  SaidError : Addr
  SaidError_g : mg "SaidError" = some (.ref SaidError)
  NoBook : Addr
  NoBook_g : mg "NoBook" = some (.ref NoBook)
  NoProgram : Addr
  NoProgram_g : mg "NoProgram" = some (.ref NoProgram)
  NoText : Addr
  NoText_g : mg "NoText" = some (.ref NoText)
  NoTree : Addr
  NoTree_g : mg "NoTree" = some (.ref NoTree)
  NoKind : Addr
  NoKind_g : mg "NoKind" = some (.ref NoKind)
  NoPlace : Addr
  NoPlace_g : mg "NoPlace" = some (.ref NoPlace)
  TooMany : Addr
  TooMany_g : mg "TooMany" = some (.ref TooMany)
  AtEnd : Addr
  AtEnd_g : mg "AtEnd" = some (.ref AtEnd)
  NoLine : Addr
  NoLine_g : mg "NoLine" = some (.ref NoLine)
  NoRow : Addr
  NoRow_g : mg "NoRow" = some (.ref NoRow)
  NoRun : Addr
  NoRun_g : mg "NoRun" = some (.ref NoRun)
  NoChange : Addr
  NoChange_g : mg "NoChange" = some (.ref NoChange)
  cls : ∀ C, C ∈ ([NoBook, NoProgram, NoText, NoTree, NoKind, NoPlace, TooMany, AtEnd, NoLine, NoRow, NoRun, NoChange] : List Addr) → XCls K C SaidError
  sep : ∀ D, D ∈ ([NoBook, NoProgram, NoText, NoTree, NoKind, NoPlace, TooMany, AtEnd, NoLine, NoRow, NoRun, NoChange] : List Addr) → ∀ C, C ∈ ([NoBook, NoProgram, NoText, NoTree, NoKind, NoPlace, TooMany, AtEnd, NoLine, NoRow, NoRun, NoChange] : List Addr) → PySem.W.kitOne K (.ref D) (.ref C) = some (decide (D = C))
  ndc : ([NoBook, NoProgram, NoText, NoTree, NoKind, NoPlace, TooMany, AtEnd, NoLine, NoRow, NoRun, NoChange] : List Addr).Nodup
  NoBook_i : Addr
  NoBook_d : FuncData
  NoBook_j : PySem.W.findIn K (.ref NoBook) "__init__" = some (some (.ref NoBook_i))
  NoBook_t : PySem.W.typeIn K (.ref NoBook_i) = some (.type "function")
  NoBook_row : PySem.W.findIn K (.ref NoBook) "row" = some none
  NoBook_why : PySem.W.findIn K (.ref NoBook) "why" = some none
  NoBook_b : KBn K NoBook_d ["self", "row", "why"] 3 [] (fun us ws => us ++ ws) (fun vs zs => vs ++ zs)
  NoProgram_i : Addr
  NoProgram_d : FuncData
  NoProgram_j : PySem.W.findIn K (.ref NoProgram) "__init__" = some (some (.ref NoProgram_i))
  NoProgram_t : PySem.W.typeIn K (.ref NoProgram_i) = some (.type "function")
  NoProgram_row : PySem.W.findIn K (.ref NoProgram) "row" = some none
  NoProgram_why : PySem.W.findIn K (.ref NoProgram) "why" = some none
  NoProgram_b : KBn K NoProgram_d ["self", "row", "why"] 2 ["why"] (fun us ws => us ++ ws) (fun vs zs => vs ++ zs)
  NoText_i : Addr
  NoText_d : FuncData
  NoText_j : PySem.W.findIn K (.ref NoText) "__init__" = some (some (.ref NoText_i))
  NoText_t : PySem.W.typeIn K (.ref NoText_i) = some (.type "function")
  NoText_at : PySem.W.findIn K (.ref NoText) "at" = some none
  NoText_b : KBn K NoText_d ["self", "at"] 2 [] (fun us ws => us ++ ws) (fun vs zs => vs ++ zs)
  NoTree_i : Addr
  NoTree_d : FuncData
  NoTree_j : PySem.W.findIn K (.ref NoTree) "__init__" = some (some (.ref NoTree_i))
  NoTree_t : PySem.W.typeIn K (.ref NoTree_i) = some (.type "function")
  NoTree_path : PySem.W.findIn K (.ref NoTree) "path" = some none
  NoTree_b : KBn K NoTree_d ["self", "path"] 1 ["path"] (fun us ws => us ++ ws) (fun vs zs => vs ++ zs)
  NoTree_p : Binds K NoTree_d ["self", "path"] []
  NoKind_i : Addr
  NoKind_d : FuncData
  NoKind_j : PySem.W.findIn K (.ref NoKind) "__init__" = some (some (.ref NoKind_i))
  NoKind_t : PySem.W.typeIn K (.ref NoKind_i) = some (.type "function")
  NoKind_path : PySem.W.findIn K (.ref NoKind) "path" = some none
  NoKind_b : KBn K NoKind_d ["self", "path"] 2 [] (fun us ws => us ++ ws) (fun vs zs => vs ++ zs)
  NoPlace_i : Addr
  NoPlace_d : FuncData
  NoPlace_j : PySem.W.findIn K (.ref NoPlace) "__init__" = some (some (.ref NoPlace_i))
  NoPlace_t : PySem.W.typeIn K (.ref NoPlace_i) = some (.type "function")
  NoPlace_path : PySem.W.findIn K (.ref NoPlace) "path" = some none
  NoPlace_b : KBn K NoPlace_d ["self", "path"] 1 ["path"] (fun us ws => us ++ ws) (fun vs zs => vs ++ zs)
  TooMany_i : Addr
  TooMany_d : FuncData
  TooMany_j : PySem.W.findIn K (.ref TooMany) "__init__" = some (some (.ref TooMany_i))
  TooMany_t : PySem.W.typeIn K (.ref TooMany_i) = some (.type "function")
  TooMany_most : PySem.W.findIn K (.ref TooMany) "most" = some none
  TooMany_b : KBn K TooMany_d ["self", "most"] 1 ["most"] (fun us ws => us ++ ws) (fun vs zs => vs ++ zs)
  TooMany_p : Binds K TooMany_d ["self", "most"] []
  AtEnd_j : PySem.W.findIn K (.ref AtEnd) "__init__" = some (some (.builtin "ValueError.__init__"))
  NoLine_j : PySem.W.findIn K (.ref NoLine) "__init__" = some (some (.builtin "ValueError.__init__"))
  NoRow_j : PySem.W.findIn K (.ref NoRow) "__init__" = some (some (.builtin "ValueError.__init__"))
  NoRun_j : PySem.W.findIn K (.ref NoRun) "__init__" = some (some (.builtin "ValueError.__init__"))
  NoChange_j : PySem.W.findIn K (.ref NoChange) "__init__" = some (some (.builtin "ValueError.__init__"))
  S_b : PySem.W.subIn K (.ref SaidError) (.type "BaseException") = some true
  S_h : PySem.W.hasDictIn K SaidError = true
  S_t : PySem.W.typeIn K (.ref SaidError) = some (.type "type")
  TooMany_n : PySem.W.subIn K (.ref TooMany) (.ref NoTree) = some false
  AtEnd_n : PySem.W.subIn K (.ref AtEnd) (.ref NoTree) = some false
  TooMany_s : PySem.W.subIn K (.ref TooMany) (.ref SaidError) = some true
  AtEnd_s : PySem.W.subIn K (.ref AtEnd) (.ref SaidError) = some true
  _law_feed_of : Addr
  _law_feed_of_d : FuncData
  _law_feed_of_f : Fun K "_law_feed_of" "_law_feed_of" s__law_feed_of _law_feed_of _law_feed_of_d
  _law_feed_of_b : Binds K _law_feed_of_d ["_law_script", "_law_k"] []
  _law_feed_of_g : mg "_law_feed_of" = some (.ref _law_feed_of)
  _law_feed_of_k : PySem.W.keepIn K (.ref _law_feed_of) = true
  _law_draw : Addr
  _law_draw_d : FuncData
  _law_draw_f : Fun K "_law_draw" "_law_draw" s__law_draw _law_draw _law_draw_d
  _law_draw_b : Binds K _law_draw_d ["_law_feed", "_law_many"] []
  _law_draw_g : mg "_law_draw" = some (.ref _law_draw)
  _law_draw_k : PySem.W.keepIn K (.ref _law_draw) = true
  _law_pick : Addr
  _law_pick_d : FuncData
  _law_pick_f : Fun K "_law_pick" "_law_pick" s__law_pick _law_pick _law_pick_d
  _law_pick_b : Binds K _law_pick_d ["_law_feed", "_law_items"] []
  _law_pick_g : mg "_law_pick" = some (.ref _law_pick)
  _law_pick_k : PySem.W.keepIn K (.ref _law_pick) = true
  _law_same : Addr
  _law_same_d : FuncData
  _law_same_f : Fun K "_law_same" "_law_same" s__law_same _law_same _law_same_d
  _law_same_b : Binds K _law_same_d ["_law_found", "_law_due"] []
  _law_same_g : mg "_law_same" = some (.ref _law_same)
  _law_same_k : PySem.W.keepIn K (.ref _law_same) = true
  _law_any_value : Addr
  _law_any_value_d : FuncData
  _law_any_value_f : FunD K "_law_any_value" "_law_any_value" (defArgs s__law_any_value) (defBody s__law_any_value) (defScope s__law_any_value) [.int 3] [] _law_any_value _law_any_value_d
  _law_any_value_ds0 : List Value
  _law_any_value_v0 : Vals [] _law_any_value_ds0
  _law_any_value_b0 : Binds K _law_any_value_d ["_law_feed", "_law_deep"] _law_any_value_ds0
  _law_any_value_ds1 : List Value
  _law_any_value_v1 : Vals [.int 3] _law_any_value_ds1
  _law_any_value_b1 : Binds K _law_any_value_d ["_law_feed", "_law_deep"] _law_any_value_ds1
  _law_any_value_g : mg "_law_any_value" = some (.ref _law_any_value)
  _law_any_value_k : PySem.W.keepIn K (.ref _law_any_value) = true
  _law_made : Addr
  _law_made_d : FuncData
  _law_made_f : Fun K "_law_made" "_law_made" s__law_made _law_made _law_made_d
  _law_made_b : Binds K _law_made_d ["_law_a", "_law_b"] []
  _law_made_g : mg "_law_made" = some (.ref _law_made)
  _law_made_k : PySem.W.keepIn K (.ref _law_made) = true
  _law_sorts : Addr
  _law_sorts_d : FuncData
  _law_sorts_f : Fun K "_law_sorts" "_law_sorts" s__law_sorts _law_sorts _law_sorts_d
  _law_sorts_b : Binds K _law_sorts_d ["_law_e"] []
  _law_sorts_g : mg "_law_sorts" = some (.ref _law_sorts)
  _law_sorts_k : PySem.W.keepIn K (.ref _law_sorts) = true
  _law_raised : Addr
  _law_raised_d : FuncData
  _law_raised_f : Fun K "_law_raised" "_law_raised" s__law_raised _law_raised _law_raised_d
  _law_raised_b : Binds K _law_raised_d ["_law_form", "_law_a"] []
  _law_raised_g : mg "_law_raised" = some (.ref _law_raised)
  _law_raised_k : PySem.W.keepIn K (.ref _law_raised) = true
  law : Addr
  law_d : FuncData
  law_f : Fun K "law" "law" s_law law law_d
  law_b : Binds K law_d ["_law_script"] []
  law_g : mg "law" = some (.ref law)
  law_k : PySem.W.keepIn K (.ref law) = true
/-! ### data -/
def Ext (f : Addr) (H H' : Hp) : Prop := ∀ a o, a ≠ f → H a = some o → H' a = some o
theorem Ext.refl {f : Addr} {H : Hp} : Ext f H H := fun _ _ _ h => h
theorem Ext.trans {f : Addr} {H H1 H2 : Hp} (a : Ext f H H1) (b : Ext f H1 H2) : Ext f H H2 := fun c o n h => b c o n (a c o n h)
theorem Ext.same {f : Addr} {H H1 : Hp} (a : Same H H1) : Ext f H H1 := fun c o _ h => a c o h
theorem same_upd {H : Hp} {p : Addr} {o : HO} (h : H p = none) : Same H (upd H p o) := fun b x e => by
  rw [upd_ne (ne_of_none e h)]
  exact e
theorem Ext.upd {f : Addr} {H : Hp} {o : HO} : Ext f H (L2.upd H f o) := fun c u n h => by
  rw [upd_ne n]; exact h
def Fd (f : Addr) (H : Hp) : Prop := ∃ g s : Int, H f = some (.lst [.int g, .int s]) ∧ 0 ≤ g ∧ 0 ≤ s
theorem Fd.same {f : Addr} {H H' : Hp} (h : Fd f H) (e : Same H H') : Fd f H' := by
  obtain ⟨g, s, h1, h2⟩ := h
  exact ⟨g, s, e _ _ h1, h2⟩
abbrev AS := Addr → Prop
def Trk (F : AS) (H : Hp) : Prop := ∀ a, F a → ∃ o, H a = some o
theorem Trk.ext {F : AS} {f : Addr} {H H' : Hp} (h : Trk F H) (e : Ext f H H') (x : Fd f H') : Trk F H' := fun a ha => by
  by_cases n : a = f
  · obtain ⟨g, s, q, _⟩ := x
    exact ⟨_, n ▸ q⟩
  · obtain ⟨o, q⟩ := h a ha
    exact ⟨o, e a o n q⟩
theorem Trk.same {F : AS} {H H' : Hp} (h : Trk F H) (e : Same H H') : Trk F H' := fun a ha => by
  obtain ⟨o, q⟩ := h a ha
  exact ⟨o, e a o q⟩
theorem Trk.new {F : AS} {H : Hp} {p : Addr} (h : Trk F H) (n : H p = none) : ¬ F p := fun q => by
  obtain ⟨o, e⟩ := h p q
  rw [n] at e
  cases e
def Wth (F : AS) (D : Addr) : AS := fun a => F a ∨ a = D
theorem Trk.wth {F : AS} {H : Hp} {D : Addr} {o : HO} (h : Trk F H) (e : H D = some o) : Trk (Wth F D) H := fun a ha => ha.elim (h a) fun z => ⟨o, z ▸ e⟩
mutual
inductive Da (F : AS) (H : Hp) : V → PyData → Prop
  | non : Da F H .non .none
  | bl (b : Bool) : Da F H (.bl b) (.bool b)
  | int (i : Int) : Da F H (.int i) (.int i)
  | str (x : Str) : Da F H (.str x) (.str x)
  | lst {a : Addr} {xs : List V} {ds : List PyData} : ¬ F a → H a = some (.lst xs) → DaAll F H xs ds → Da F H (.ref a) (.list ds)
  | tup {a : Addr} {xs : List V} {ds : List PyData} : ¬ F a → H a = some (.tup xs) → DaAll F H xs ds → Da F H (.ref a) (.tuple ds)
inductive DaAll (F : AS) (H : Hp) : List V → List PyData → Prop
  | nil : DaAll F H [] []
  | cons {v : V} {vs : List V} {d : PyData} {ds : List PyData} : Da F H v d → DaAll F H vs ds → DaAll F H (v :: vs) (d :: ds)
end
mutual
theorem Da.mono {F F' : AS} {H H' : Hp} (x : ∀ a o, ¬ F a → H a = some o → ¬ F' a ∧ H' a = some o) : ∀ (d : PyData) (v : V), Da F H v d → Da F' H' v d
  | .none, _, h => by cases h; exact .non
  | .bool b, _, h => by cases h; exact .bl b
  | .int b, _, h => by cases h; exact .int b
  | .str b, _, h => by cases h; exact .str b
  | .list ds, _, h => by
    cases h with
    | lst n e a => exact .lst (x _ _ n e).1 (x _ _ n e).2 (DaAll.mono x ds _ a)
  | .tuple ds, _, h => by
    cases h with
    | tup n e a => exact .tup (x _ _ n e).1 (x _ _ n e).2 (DaAll.mono x ds _ a)
  | .dict _, _, h => by cases h
theorem DaAll.mono {F F' : AS} {H H' : Hp} (x : ∀ a o, ¬ F a → H a = some o → ¬ F' a ∧ H' a = some o) : ∀ (ds : List PyData) (vs : List V), DaAll F H vs ds → DaAll F' H' vs ds
  | [], _, h => by cases h; exact .nil
  | d :: ds, _, h => by
    cases h with
    | cons a b => exact .cons (Da.mono x d _ a) (DaAll.mono x ds _ b)
end
section
variable {F : AS} {f D : Addr} {H H' : Hp} {v : V} {d : PyData} {vs : List V} {ds : List PyData}
theorem Da.ext (h : Da F H v d) (x : Ext f H H') (hf : F f) : Da F H' v d := Da.mono (fun a o n e => ⟨n, x a o (fun z => n (z ▸ hf)) e⟩) d v h
theorem DaAll.ext (h : DaAll F H vs ds) (x : Ext f H H') (hf : F f) : DaAll F H' vs ds := DaAll.mono (fun a o n e => ⟨n, x a o (fun z => n (z ▸ hf)) e⟩) ds vs h
theorem Da.same (h : Da F H v d) (x : Same H H') : Da F H' v d := Da.mono (fun a o n e => ⟨n, x a o e⟩) d v h
theorem DaAll.same (h : DaAll F H vs ds) (x : Same H H') : DaAll F H' vs ds := DaAll.mono (fun a o n e => ⟨n, x a o e⟩) ds vs h
theorem Da.upd {o : HO} (h : Da F H v d) (hf : F D) : Da F (L2.upd H D o) v d := h.ext Ext.upd hf
theorem DaAll.upd {o : HO} (h : DaAll F H vs ds) (hf : F D) : DaAll F (L2.upd H D o) vs ds := h.ext Ext.upd hf
theorem Da.avoid (h : Da F H v d) (n : H D = none) : Da (Wth F D) H v d := Da.mono (fun a o q e => ⟨fun z => z.elim q fun y => (by rw [y, n] at e; cases e), e⟩) d v h
theorem DaAll.avoid (h : DaAll F H vs ds) (n : H D = none) : DaAll (Wth F D) H vs ds := DaAll.mono (fun a o q e => ⟨fun z => z.elim q fun y => (by rw [y, n] at e; cases e), e⟩) ds vs h
theorem Da.wth (h : Da (Wth F D) H v d) : Da F H v d := Da.mono (fun a o q e => ⟨fun z => q (.inl z), e⟩) d v h
theorem DaAll.wth (h : DaAll (Wth F D) H vs ds) : DaAll F H vs ds := DaAll.mono (fun a o q e => ⟨fun z => q (.inl z), e⟩) ds vs h
theorem DaAll.length : ∀ {vs : List V} {ds : List PyData}, DaAll F H vs ds → vs.length = ds.length
  | [], [], _ => rfl
  | _ :: _, _ :: _, .cons _ b => congrArg (· + 1) b.length
theorem DaAll.get : ∀ {vs : List V} {ds : List PyData} {i : Nat} {v : V}, DaAll F H vs ds → vs[i]? = some v → ∃ d, ds[i]? = some d ∧ Da F H v d
  | [], _, _, _, _, e => by simp at e
  | _ :: _, _, 0, _, .cons a _, e => ⟨_, rfl, by
    have z := Option.some.inj e
    exact z ▸ a⟩
  | _ :: _, _, i + 1, _, .cons _ b, e => b.get (i := i) e
theorem DaAll.append : ∀ {vs vs' : List V} {ds ds' : List PyData}, DaAll F H vs ds → DaAll F H vs' ds' → DaAll F H (vs ++ vs') (ds ++ ds')
  | _, _, _, _, .nil, b => b
  | _, _, _, _, .cons a t, b => .cons a (t.append b)
theorem DaAll.take : ∀ {vs : List V} {ds : List PyData} (n : Nat), DaAll F H vs ds → DaAll F H (vs.take n) (ds.take n)
  | _, _, 0, _ => .nil
  | _, _, _ + 1, .nil => .nil
  | _, _, n + 1, .cons a t => .cons a (t.take n)
theorem DaAll.drop : ∀ {vs : List V} {ds : List PyData} (n : Nat), DaAll F H vs ds → DaAll F H (vs.drop n) (ds.drop n)
  | _, _, 0, h => h
  | _, _, _ + 1, .nil => .nil
  | _, _, n + 1, .cons _ t => t.drop n
end
mutual
theorem Da.dp {K : PySem.W.Frag} {F : AS} {H : Hp} : ∀ (d : PyData) (v : V), Da F H v d → Dp K H v d
  | .none, _, h => by cases h; exact .non
  | .bool b, _, h => by cases h; exact .bl b
  | .int b, _, h => by cases h; exact .int b
  | .str b, _, h => by cases h; exact .str b
  | .list ds, _, h => by
    cases h with
    | lst n e a => exact .lst (SqL.of e) (DaAll.dp ds _ a)
  | .tuple ds, _, h => by
    cases h with
    | tup n e a => exact .tup (SqT.of e) (DaAll.dp ds _ a)
  | .dict _, _, h => by cases h
theorem DaAll.dp {K : PySem.W.Frag} {F : AS} {H : Hp} : ∀ (ds : List PyData) (vs : List V), DaAll F H vs ds → DpAll K H vs ds
  | [], _, h => by cases h; exact .nil
  | d :: ds, _, h => by
    cases h with
    | cons a b => exact .cons (Da.dp d _ a) (DaAll.dp ds _ b)
end
/-! ### data that are good: narrow, with short texts, ints not too low -/
mutual
def gd (w : Nat) : PyData → Bool
  | .none | .bool _ => true
  | .int i => decide (-(10 ^ 60) ≤ i)
  | .str x => PyData.strOk x && decide (x.length ≤ 100)
  | .list xs | .tuple xs => decide (xs.length ≤ w) && gdAll w xs
  | .dict _ => false
def gdAll (w : Nat) : List PyData → Bool
  | [] => true
  | x :: xs => gd w x && gdAll w xs
end
theorem gdAll_iff {w : Nat} : ∀ {xs : List PyData}, gdAll w xs = true ↔ ∀ x ∈ xs, gd w x = true
  | [] => by simp [gdAll]
  | x :: xs => by simp [gdAll, gdAll_iff (xs := xs)]
mutual
theorem gd_lay {w : Nat} : ∀ d : PyData, gd w d = true → d.canLay0 = true
  | .none, _ => rfl
  | .bool _, _ => rfl
  | .int _, _ => rfl
  | .str x, h => by
    simp only [gd, Bool.and_eq_true] at h
    simp only [PyData.canLay0]
    exact h.1
  | .list xs, h => by
    simp only [gd, Bool.and_eq_true] at h
    simp only [PyData.canLay0]
    exact gdAll_lay xs h.2
  | .tuple xs, h => by
    simp only [gd, Bool.and_eq_true] at h
    simp only [PyData.canLay0]
    exact gdAll_lay xs h.2
  | .dict _, h => by simp [gd] at h
theorem gdAll_lay {w : Nat} : ∀ ds : List PyData, gdAll w ds = true → PyData.canLayAll0 ds = true
  | [], _ => rfl
  | d :: ds, h => by
    simp only [gdAll, Bool.and_eq_true] at h
    simp only [PyData.canLayAll0, Bool.and_eq_true]
    exact ⟨gd_lay d h.1, gdAll_lay ds h.2⟩
end
mutual
theorem gd_mono {w w' : Nat} (hw : w ≤ w') : ∀ d : PyData, gd w d = true → gd w' d = true
  | .none, _ => rfl
  | .bool _, _ => rfl
  | .int _, h => h
  | .str x, h => h
  | .list xs, h => by
    simp only [gd, Bool.and_eq_true, decide_eq_true_eq] at h ⊢
    exact ⟨by omega, gdAll_mono hw xs h.2⟩
  | .tuple xs, h => by
    simp only [gd, Bool.and_eq_true, decide_eq_true_eq] at h ⊢
    exact ⟨by omega, gdAll_mono hw xs h.2⟩
  | .dict _, h => by simp [gd] at h
theorem gdAll_mono {w w' : Nat} (hw : w ≤ w') : ∀ ds : List PyData, gdAll w ds = true → gdAll w' ds = true
  | [], _ => rfl
  | d :: ds, h => by
    simp only [gdAll, Bool.and_eq_true] at h ⊢
    exact ⟨gd_mono hw d h.1, gdAll_mono hw ds h.2⟩
end
theorem depthAll_iff {n : Nat} : ∀ {xs : List PyData}, PyData.depthAll xs ≤ n ↔ ∀ x ∈ xs, x.depth ≤ n
  | [] => by simp [PyData.depthAll]
  | x :: xs => by simp [PyData.depthAll, Nat.max_le, depthAll_iff (xs := xs)]
def Gn (w n : Nat) (d : PyData) : Prop := gd w d = true ∧ d.depth ≤ n
theorem Gn.mono {w w' n n' : Nat} {d : PyData} (h : Gn w n d) (hw : w ≤ w') (hn : n ≤ n') : Gn w' n' d := ⟨gd_mono hw d h.1, Nat.le_trans h.2 hn⟩
theorem Gn.shaped {w n : Nat} {d : PyData} (h : Gn w n d) (hn : n ≤ 64) : SeqAt.shaped d = true := by
  unfold SeqAt.shaped
  rw [gd_lay d h.1, Bool.true_and]
  exact decide_eq_true (Nat.le_trans h.2 hn)
theorem Gn.tuple {w n : Nat} {ds : List PyData} (hw : ds.length ≤ w) (h : ∀ d ∈ ds, Gn w n d) : Gn w (n + 1) (.tuple ds) := by
  refine ⟨?_, ?_⟩
  · simp only [gd, Bool.and_eq_true, decide_eq_true_eq]
    exact ⟨hw, gdAll_iff.mpr fun d hd => (h d hd).1⟩
  · simp only [PyData.depth]
    have := (depthAll_iff (n := n) (xs := ds)).mpr fun d hd => (h d hd).2
    omega
theorem Gn.list {w n : Nat} {ds : List PyData} (hw : ds.length ≤ w) (h : ∀ d ∈ ds, Gn w n d) : Gn w (n + 1) (.list ds) := by
  refine ⟨?_, ?_⟩
  · simp only [gd, Bool.and_eq_true, decide_eq_true_eq]
    exact ⟨hw, gdAll_iff.mpr fun d hd => (h d hd).1⟩
  · simp only [PyData.depth]
    have := (depthAll_iff (n := n) (xs := ds)).mpr fun d hd => (h d hd).2
    omega
theorem Gn.tuple_inv {w n : Nat} {ds : List PyData} (h : Gn w n (.tuple ds)) : ds.length ≤ w ∧ 0 < n ∧ ∀ d ∈ ds, Gn w (n - 1) d := by
  obtain ⟨h1, h2⟩ := h
  simp only [gd, Bool.and_eq_true, decide_eq_true_eq] at h1
  simp only [PyData.depth] at h2
  exact ⟨h1.1, by omega, fun d hd => ⟨gdAll_iff.mp h1.2 d hd, depthAll_iff.mp (by omega) d hd⟩⟩
theorem Gn.list_inv {w n : Nat} {ds : List PyData} (h : Gn w n (.list ds)) : ds.length ≤ w ∧ 0 < n ∧ ∀ d ∈ ds, Gn w (n - 1) d := by
  obtain ⟨h1, h2⟩ := h
  simp only [gd, Bool.and_eq_true, decide_eq_true_eq] at h1
  simp only [PyData.depth] at h2
  exact ⟨h1.1, by omega, fun d hd => ⟨gdAll_iff.mp h1.2 d hd, depthAll_iff.mp (by omega) d hd⟩⟩
/-! ### cuts: what follows is shown once -/
def tMid (t u : TS) : TS := fun D σ H => ∃ M : L2.St → Hp → Prop, t { D with nx := M } σ H ∧ ∀ σ' H', M σ' H' → u D σ' H'
theorem pss_mid {X : Cx} {st : Stmt} {rest : List Stmt} {t u : TS} (h1 : PS X st t) (h2 : PSs X rest u) : PSs X (st :: rest) (tMid t u) := by
  refine ⟨fun pins s σ H D I h => ?_⟩
  obtain ⟨M, hm, hu⟩ := h
  refine wpAny_execs_cons (thn (h1.run pins s σ H { D with nx := M } I hm) fun f s1 q => ?_)
  cases f with
  | next =>
    obtain ⟨σ', H', I', q⟩ := q
    exact h2.run pins s1 σ' H' D I' (hu σ' H' q)
  | ret v => exact q
  | brk => exact q
  | cont => exact q
def tEMid (t : TE) : TE := fun σ H Q => ∃ M : V → Hp → Prop, t σ H M ∧ ∀ v H', M v H' → Q v H'
theorem pe_mid {X : Cx} {e : Expr} {t : TE} (h : PE X e t) : PE X e (tEMid t) := by
  refine ⟨fun pins s σ H Q I hq => ?_⟩
  obtain ⟨M, hm, hu⟩ := hq
  exact thn (h.run pins s σ H M I hm) fun u s1 ⟨v, H1, I1, r, q⟩ => ⟨v, H1, I1, r, hu _ _ q⟩
def tTMid (t : TT) : TT := fun σ H Q => ∃ M : Bool → Hp → Prop, t σ H M ∧ ∀ v H', M v H' → Q v H'
theorem pt_mid {X : Cx} {e : Expr} {t : TT} (h : PT X e t) : PT X e (tTMid t) := by
  refine ⟨fun pins s σ H Q I hq => ?_⟩
  obtain ⟨M, hm, hu⟩ := hq
  exact thn (h.run pins s σ H M I hm) fun u s1 ⟨H1, I1, q⟩ => ⟨H1, I1, hu _ _ q⟩
theorem pw_mid {X : Cx} {e : Expr} {t : TT} (h : PW X e t) : PW X e (tTMid t) := by
  refine ⟨fun wh pins s σ H Q I hq => ?_⟩
  obtain ⟨M, hm, hu⟩ := hq
  exact thn (h.run wh pins s σ H M I hm) fun u s1 ⟨H1, I1, q⟩ => ⟨H1, I1, hu _ _ q⟩
section
variable {P : Program} {w : World} {K : PySem.W.Frag} {mg : Str → Option Value} {base : Heap}
/-! ### draws -/
def sp_draw : Sp := fun vs H Q _ => ∃ (f : Addr) (m : Int), vs = [.ref f, .int m] ∧ Fd f H ∧ 0 < m ∧ m < 1073741824 ∧ ∀ r H', 0 ≤ r → r < m → Ext f H H' → Fd f H' → Q (.int r) H'
theorem ok__law_draw (T : Top K mg) : FnOk P w K mg base CX0 1 T._law_draw T._law_draw_d ["_law_feed", "_law_many"] sp_draw := by
  refine T._law_draw_f.ok sc__law_draw (fun vs H Q E h => ?_) (fun cdv A outer s H vs Q E hr h => ?_)
  · obtain ⟨f, m, rfl, _⟩ := h
    rfl
  obtain ⟨f, m, rfl, ⟨g, z, hf, hg, hz⟩, hm, hm2, q⟩ := h
  -- slots: 0 _law_feed, 1 _law_many, 2 _law_digit
  refine ⟨_, (pss_cons (ps_if (pt_cmpR op_gt (pe_ix ix_list (pv 0) pe_int (fun _ _ => rfl)) pe_int (nomark _)) (pss_cons (ps_set (i := 2) sc__law_draw.nd rfl (.inl rfl) (pe_op op_mod (pe_ix ix_list (pv 0) pe_int (fun _ _ => rfl)) (pv 1)))
      (pss_cons (ps_asg (pe_op op_fdiv (pe_ix ix_list (pv 0) pe_int (fun _ _ => rfl)) (pv 1)) (pg_sub (pv 0) pe_int set_list))
      (pss_one (ps_ret (pv 2))))) pss_nil)
      (pss_cons (ps_asg (pe_op op_mod (pe_op op_add (pe_op op_mul (pe_ix ix_list (pv 0) pe_int (fun _ _ => rfl)) pe_int) pe_int) pe_int) (pg_sub (pv 0) pe_int set_list))
      (pss_one (ps_ret (pe_op op_mod (pe_op op_fdiv (pe_ix ix_list (pv 0) pe_int (fun _ _ => rfl)) pe_int) (pv 1)))))), ?_⟩
  refine ⟨_, rfl, f, _, 0, _, rfl, rfl, SqL.of hf, rfl, _, _, rfl, rfl, _, rfl, ite2 (fun c => ?_) (fun c => ?_)⟩
  · have c' : 0 < g := of_decide_eq_true c
    refine ⟨_, rfl, f, _, 0, _, rfl, rfl, SqL.of hf, rfl, _, rfl, _, _, rfl, rfl, hm, ?_⟩
    refine ⟨_, rfl, f, _, 0, _, rfl, rfl, SqL.of hf, rfl, _, rfl, _, _, rfl, rfl, ⟨hm, hm2⟩, _, rfl, f, _, 0, 0, rfl, rfl, hf, rfl, _, rfl, ?_⟩
    exact q _ _ (Int.emod_nonneg _ (by omega)) (Int.emod_lt_of_pos _ hm) Ext.upd ⟨g / m, z, upd_same, Int.ediv_nonneg hg (by omega), hz⟩
  · refine ⟨_, rfl, f, _, 1, _, rfl, rfl, SqL.of hf, rfl, _, _, rfl, rfl, .inr ⟨by decide, by decide⟩, _, _, rfl, rfl, _, _, rfl, rfl, (by show (0 : Int) < 2147483647; decide), _, rfl, f, _, 1, 1, rfl, rfl, hf, rfl, ?_⟩
    refine ⟨_, rfl, f, _, 1, _, rfl, rfl, SqL.of upd_same, rfl, _, _, rfl, rfl, ⟨by decide, by decide⟩, _, rfl, _, _, rfl, rfl, hm, ?_⟩
    have e1 : (0 : Int) ≤ (z * 48271 + 11) % 2147483647 := Int.emod_nonneg _ (by decide)
    exact q _ _ (Int.emod_nonneg _ (by omega)) (Int.emod_lt_of_pos _ hm) Ext.upd ⟨g, _, upd_same, hg, e1⟩
/-! ### the feed of a cell -/
def sp_feed_of : Sp := fun vs H Q _ => ∃ (a : Addr) (ns : List Int) (k : Nat), vs = [.ref a, .int k] ∧ SqL K H a (ns.map V.int) ∧ k ≤ 1000 ∧ ∀ f H', H f = none → Same H H' → Fd f H' → Q (.ref f) H'
theorem ok__law_feed_of (T : Top K mg) : FnOk P w K mg base CX0 1 T._law_feed_of T._law_feed_of_d ["_law_script", "_law_k"] (sp_feed_of (K := K)) := by
  refine T._law_feed_of_f.ok sc__law_feed_of (fun vs H Q E h => ?_) (fun cdv A outer s H vs Q E hr h => ?_)
  · obtain ⟨a, ns, k, rfl, _⟩ := h
    rfl
  obtain ⟨a, ns, k, rfl, hS, hk, q⟩ := h
  -- slots: 0 _law_script, 1 _law_k, 2 _law_cell, 3 _law_great
  refine ⟨_, (pss_cons (ps_set (i := 2) sc__law_feed_of.nd rfl (.inl rfl) (pe_op op_add (pe_op op_mul pe_int (pv 1)) pe_int))
      (pss_mid (ps_if (pt_cmpR op_lt (pv 1) (pe_callB call_len_seq (by rfl) T.len_n (by decide +kernel) (pa_cons (pv 0) pa_nil)) (nomark _)) (pss_one (ps_set (i := 2) sc__law_feed_of.nd rfl (.inl rfl) (pe_ix ix_list (pv 0) (pv 1) (fun _ _ => rfl)))) pss_nil)
      (pss_mid (ps_if (pt_cmpR op_lt (pv 2) pe_int (nomark _)) (pss_one (ps_set (i := 2) sc__law_feed_of.nd rfl (.inl rfl) (pe_op op_sub pe_int (pe_op op_mul pe_int (pv 2))))) pss_nil)
      (pss_cons (ps_set (i := 3) sc__law_feed_of.nd rfl (.inl rfl) (pe_mid (pe_ifExp (pt_cmpR op_ge (pv 2) (pe_op op_pow pe_int pe_int) (nomark _)) (pv 2) pe_int)))
      (pss_one (ps_ret (pe_lst (pa_cons (pv 3) (pa_cons (pe_op op_add (pe_op op_add (pe_op op_mod (pv 2) pe_int) (pe_op op_mul pe_int (pv 1))) pe_int) pa_nil))))))))), ?_⟩
  -- cell = 7919 * k + 17
  refine ⟨_, rfl, _, _, rfl, rfl, .inl ⟨by decide, by decide⟩, _, _, rfl, rfl, ?_⟩
  -- if k < len(script): cell = script[k]
  refine ⟨fun σ H' => ∃ c : Int, σ = [some (.ref a), some (.int k), some (.int c), none] ∧ H = H', ?_, ?_⟩
  · refine ⟨_, rfl, _, rfl, a, _, rfl, .inl hS, _, _, rfl, rfl, _, rfl, ite2 (fun c => ?_) (fun c => ⟨_, rfl, rfl⟩)⟩
    have c' := of_decide_eq_true c
    have hk2 : k < ns.length := by
      rw [List.length_map] at c'
      omega
    refine ⟨_, rfl, _, rfl, a, _, _, _, rfl, rfl, hS, atI_nat (by rw [List.getElem?_map, List.getElem?_eq_getElem hk2] <;> rfl), _, rfl, rfl⟩
  rintro _ _ ⟨c, rfl, rfl⟩
  -- if cell < 0
  refine ⟨fun σ H' => ∃ c : Int, σ = [some (.ref a), some (.int k), some (.int c), none] ∧ H = H' ∧ 0 ≤ c, ?_, ?_⟩
  · refine ⟨_, rfl, _, _, rfl, rfl, _, rfl, ite2 (fun e => ?_) (fun e => ?_)⟩
    · have e' := of_decide_eq_true e
      exact ⟨_, rfl, _, _, rfl, rfl, .inl ⟨by decide, by decide⟩, _, _, rfl, rfl, _, rfl, rfl, by omega⟩
    · have e' := of_decide_eq_false (Bool.eq_false_iff.mpr e)
      exact ⟨_, rfl, rfl, by omega⟩
  rintro _ _ ⟨c, rfl, rfl, hc⟩
  -- great
  refine ⟨fun v H' => ∃ g : Int, v = .int g ∧ H = H' ∧ 0 ≤ g, ?_, ?_⟩
  · refine ⟨_, rfl, _, _, rfl, rfl, ⟨by decide, by decide, by decide⟩, _, _, rfl, rfl, _, rfl, ite2 (fun e => ?_) (fun e => ?_)⟩
    · exact ⟨_, rfl, _, rfl, rfl, hc⟩
    · exact ⟨_, rfl, rfl, by decide⟩
  rintro _ _ ⟨g, rfl, rfl, hg⟩
  refine ⟨_, rfl, _, rfl, _, _, rfl, rfl, (by show (0 : Int) < 1000003; decide), _, rfl, _, _, rfl, rfl, .inl ⟨by decide, by decide⟩, _, _, rfl, rfl, _, _, rfl, rfl, (by show 2 ≤ sizeLine; decide), fun f nf => ?_⟩
  have e1 : (0 : Int) ≤ c % 1000003 := Int.emod_nonneg _ (by decide)
  exact q _ _ nf (same_upd nf) ⟨g, _, upd_same, hg, by omega⟩
end
end Sa

set_option Elab.async false
set_option linter.all false
set_option maxRecDepth 100000
set_option maxHeartbeats 4000000
namespace Sa
open PySem PySem.Spec PyProof.Rows L2
theorem go_asg {te : TE} {g : TG} {u : TS} {D : Ends} {σ : L2.St} {H : Hp} (h : te σ H fun x H1 => g x σ H1 (u D)) : tSeq (tAsg te g) u D σ H := h
theorem go_name {i : Nat} {x : V} {σ : L2.St} {H : Hp} {Q : L2.St → Hp → Prop} (h : Q (σ.set i (some x)) H) : gName i x σ H Q := h
theorem go_ret {te : TE} {D : Ends} {σ : L2.St} {H : Hp} (h : te σ H D.rt) : tRet te D σ H := h
/-! ### expressions that hand back data, drawing on the way -/
/-- from every heap behind H0: t gives data of G -/
def Yd (f : Addr) (F : AS) (H0 : Hp) (σ : L2.St) (G : PyData → Prop) (t : TE) : Prop := ∀ H Q, Ext f H0 H → Fd f H → Trk F H → (∀ v d H', Ext f H H' → Fd f H' → Da F H' v d → G d → Q v H') → t σ H Q
def YdA (f : Addr) (F : AS) (H0 : Hp) (σ : L2.St) (G : List PyData → Prop) (t : TA) : Prop := ∀ H Q, Ext f H0 H → Fd f H → Trk F H → (∀ vs ds H', Ext f H H' → Fd f H' → DaAll F H' vs ds → G ds → Q vs H') → t σ H Q
section
variable {f : Addr} {F : AS} {H0 : Hp} {σ : L2.St} {G G1 : PyData → Prop} {Gs : List PyData → Prop} {t : TE} {ta : TA}
theorem Yd.imp (h : Yd f F H0 σ G t) (i : ∀ d, G d → G1 d) : Yd f F H0 σ G1 t := fun H Q a b c q => h H Q a b c fun v d H' x y z w => q v d H' x y z (i d w)
theorem yd_str {x : Str} (h : G (.str x)) : Yd f F H0 σ G (tC (.str x)) := fun H Q _ b _ q => q _ _ H Ext.refl b (.str x) h
theorem yd_int {x : Int} (h : G (.int x)) : Yd f F H0 σ G (tC (.int x)) := fun H Q _ b _ q => q _ _ H Ext.refl b (.int x) h
theorem yd_bl {x : Bool} (h : G (.bool x)) : Yd f F H0 σ G (tC (.bl x)) := fun H Q _ b _ q => q _ _ H Ext.refl b (.bl x) h
theorem yd_non (h : G .none) : Yd f F H0 σ G (tC .non) := fun H Q _ b _ q => q _ _ H Ext.refl b .non h
theorem yd_var {i : Nat} {v : V} {d : PyData} (e : σ[i]? = some (some v)) (hf : F f) (a : Da F H0 v d) (h : G d) : Yd f F H0 σ G (tVar i) := fun H Q x b _ q => ⟨v, e, q _ _ H Ext.refl b (a.ext x hf) h⟩
theorem yda_nil (h : Gs []) : YdA f F H0 σ Gs tNil := fun H Q _ b _ q => q _ _ H Ext.refl b .nil h
theorem yda_cons (hf : F f) (h1 : Yd f F H0 σ G t) (h2 : ∀ d, G d → YdA f F H0 σ (fun ds => Gs (d :: ds)) ta) : YdA f F H0 σ Gs (tCons t ta) := fun H Q x b c q =>
  h1 H _ x b c fun v d H1 x1 b1 a1 g1 => h2 d g1 H1 _ (x.trans x1) b1 (c.ext x1 b1) fun vs ds H2 x2 b2 a2 g2 => q (v :: vs) (d :: ds) H2 (x1.trans x2) b2 (.cons (a1.ext x2 hf) a2) g2
theorem yd_tup (hf : F f) (h : YdA f F H0 σ (fun ds => ds.length ≤ 1000 ∧ G (.tuple ds)) ta) : Yd f F H0 σ G (tTup ta) := fun H Q x b c q =>
  h H _ x b c fun vs ds H1 x1 b1 a1 g1 => by
    have e := a1.length
    refine ⟨Nat.le_of_lt (small1000 (by omega)), fun p np => ?_⟩
    have s1 : Same H1 (L2.upd H1 p (.tup vs)) := same_upd np
    exact q _ _ _ (x1.trans (Ext.same s1)) (b1.same s1) (.tup ((c.ext x1 b1).new np) upd_same (a1.same s1)) g1.2
theorem yd_lst (hf : F f) (h : YdA f F H0 σ (fun ds => ds.length ≤ 1000 ∧ G (.list ds)) ta) : Yd f F H0 σ G (tLst ta) := fun H Q x b c q =>
  h H _ x b c fun vs ds H1 x1 b1 a1 g1 => by
    have e := a1.length
    refine ⟨Nat.le_of_lt (small1000 (by omega)), fun p np => ?_⟩
    have s1 : Same H1 (L2.upd H1 p (.lst vs)) := same_upd np
    exact q _ _ _ (x1.trans (Ext.same s1)) (b1.same s1) (.lst ((c.ext x1 b1).new np) upd_same (a1.same s1)) g1.2
/-- [e for k in range(n)] with data e, over draws -/
theorem yd_lc {n : Nat} {i : Nat} {te : TE} {Ge : PyData → Prop} {H1 : Hp} {D : Addr} (hf : F f) (x1 : Ext f H0 H1) (b1 : Fd f H1) (c1 : Trk F H1) (nD : H1 D = none) (hn : n ≤ 1000)
    (he : ∀ k : Nat, k < n → Yd f (Wth F D) H1 ((wipe σ [i]).set i (some (.int (0 + k)))) Ge te) (hw : ∀ y, wipe ((wipe σ [i]).set i y) [i] = wipe σ [i]) {Qd : Hp → Prop}
    (q : ∀ H' vs ds, Ext f H1 H' → Fd f H' → H' D = some (.lst vs) → DaAll (Wth F D) H' vs ds → ds.length = n → (∀ d ∈ ds, Ge d) → Qd H') :
    ∃ W : Nat → Nat → Hp → Prop, (∃ m, W 0 m (L2.upd H1 D (.lst []))) ∧ ∀ j m H, W j m H →
      ((Itr 0 n).stop j H ∧ Qd H) ∨ ((Itr 0 n).go j H ∧ ∃ Nx : Hp → Prop, (∀ H', Nx H' → ∃ m', m' < m ∧ W (j + 1) m' H') ∧ ∀ x H', (Itr 0 n).yld j H x H' → gName i x (wipe σ [i]) H' fun σ2 H2 => wipe σ2 [i] = wipe σ [i] ∧ tYes σ2 H2 fun b H3 =>
        if b = true then te σ2 H3 fun y H4 => ∃ acc, H4 D = some (.lst acc) ∧ acc.length < sizeLine ∧ Nx (L2.upd H4 D (.lst (acc ++ [y]))) else Nx H3) := by
  have nDf : D ≠ f := fun z => by
    obtain ⟨g, s, e, _⟩ := b1
    rw [z, e] at nD
    cases nD
  refine lc_range (lo := 0) (n := n) (fun k H => Ext f H1 H ∧ Fd f H ∧ Trk (Wth F D) H ∧ ∃ vs ds, H D = some (.lst vs) ∧ DaAll (Wth F D) H vs ds ∧ ds.length = k ∧ ∀ d ∈ ds, Ge d) ?_ ?_ ?_
  · have s1 : Same H1 (L2.upd H1 D (.lst [])) := same_upd nD
    exact ⟨Ext.same s1, b1.same s1, (c1.same s1).wth upd_same, [], [], upd_same, .nil, rfl, fun d hd => by cases hd⟩
  · rintro k H hk ⟨x2, b2, c2, vs, ds, eD, aD, lD, gD⟩
    refine ⟨hw _, he k hk H _ x2 b2 c2 fun v d H3 x3 b3 a3 g3 => ?_⟩
    have eD3 := x3 D _ nDf eD
    have eL := aD.length
    refine ⟨vs, eD3, small1000 (by omega), ?_⟩
    have x4 : Ext D H3 (L2.upd H3 D (.lst (vs ++ [v]))) := Ext.upd
    refine ⟨fun a o n e => ?_, ?_, fun a ha => ?_, vs ++ [v], ds ++ [d], upd_same, ((aD.ext x3 (.inl hf)).append (.cons a3 .nil)).ext x4 (.inr rfl), by rw [List.length_append, lD]; rfl, fun y hy => ?_⟩
    · have na : a ≠ D := fun z => by rw [z, nD] at e; cases e
      rw [upd_ne na]
      exact x3 a o n (x2 a o n e)
    · obtain ⟨g, s, e, r⟩ := b3
      exact ⟨g, s, by rw [upd_ne nDf.symm]; exact e, r⟩
    · by_cases na : a = D
      · exact ⟨_, by rw [na]; exact upd_same⟩
      · obtain ⟨o, e⟩ := (c2.ext x3 b3) a ha
        exact ⟨o, by rw [upd_ne na]; exact e⟩
    · rcases List.mem_append.mp hy with z | z
      · exact gD y z
      · rw [List.mem_singleton.mp z]; exact g3
  · rintro H ⟨x2, b2, c2, vs, ds, eD, aD, lD, gD⟩
    exact q H vs ds x2 b2 eD aD lD gD
end
section
variable {f : Addr} {F : AS} {H0 : Hp} {σ : L2.St} {G G1 : PyData → Prop} {Gs : List PyData → Prop} {t : TE} {ta : TA} {m w n : Nat}
def YdU (f : Addr) (F : AS) (H0 : Hp) (σ : L2.St) (G : PyData → Prop) (m : Nat) (t : TA) : Prop := YdA f F H0 σ (fun ds => ds.length = m ∧ ∀ d ∈ ds, G d) t
theorem ydu_nil : YdU f F H0 σ G 0 tNil := yda_nil ⟨rfl, fun d hd => by cases hd⟩
theorem ydu_cons (hf : F f) (h1 : Yd f F H0 σ G t) (h2 : YdU f F H0 σ G m ta) : YdU f F H0 σ G (m + 1) (tCons t ta) :=
  yda_cons hf h1 fun d g H Q a b c q => h2 H Q a b c fun vs ds H' x y z r => q vs ds H' x y z ⟨by rw [List.length_cons, r.1], fun e he => (List.mem_cons.mp he).elim (fun u => u ▸ g) (r.2 e)⟩
theorem yd_tupG (hf : F f) (h : YdU f F H0 σ (Gn w n) m ta) (hm : m ≤ w) (hw : w ≤ 1000) : Yd f F H0 σ (Gn w (n + 1)) (tTup ta) :=
  yd_tup hf fun H Q a b c q => h H Q a b c fun vs ds H' x y z r => q vs ds H' x y z ⟨by omega, Gn.tuple (by omega) r.2⟩
theorem yd_lstU (hf : F f) (h : YdU f F H0 σ G m ta) (hm : m ≤ 1000) : Yd f F H0 σ (fun d => ∃ ds, d = .list ds ∧ ds.length = m ∧ ∀ z ∈ ds, G z) (tLst ta) :=
  yd_lst hf fun H Q a b c q => h H Q a b c fun vs ds H' x y z r => q vs ds H' x y z ⟨by omega, ds, rfl, r⟩
theorem yd_tupU (hf : F f) (h : YdU f F H0 σ G m ta) (hm : m ≤ 1000) : Yd f F H0 σ (fun d => ∃ ds, d = .tuple ds ∧ ds.length = m ∧ ∀ z ∈ ds, G z) (tTup ta) :=
  yd_tup hf fun H Q a b c q => h H Q a b c fun vs ds H' x y z r => q vs ds H' x y z ⟨by omega, ds, rfl, r⟩
theorem gn_int {i : Int} (h : -(10 ^ 60) ≤ i) : Gn w n (.int i) := ⟨decide_eq_true h, Nat.zero_le _⟩
theorem gn_bl {b : Bool} : Gn w n (.bool b) := ⟨rfl, Nat.zero_le _⟩
theorem gn_str {x : Str} (h : (PyData.strOk x && decide (x.length ≤ 100)) = true) : Gn w n (.str x) := ⟨h, Nat.zero_le _⟩
theorem yd_ixL {K : PySem.W.Frag} {i j : Nat} {p : Addr} {ds : List PyData} {d : PyData} (e : σ[i]? = some (some (.ref p))) (hf : F f) (a : Da F H0 (.ref p) (.list ds)) (g : ds[j]? = some d) (h : G d) : Yd f F H0 σ G (tOp (rIxL K) (tVar i) (tC (.int j))) := by
  intro H Q x b c q
  cases a with
  | @lst _ xs _ nF ea al =>
    have hl := al.length
    obtain ⟨hj, _⟩ := List.getElem?_eq_some_iff.mp g
    have ex : xs[j]? = some xs[j] := List.getElem?_eq_getElem (by omega)
    obtain ⟨d', e1, e2⟩ := al.get ex
    rw [g] at e1
    cases e1
    exact ⟨_, e, p, xs, j, xs[j], rfl, rfl, SqL.of (x _ _ (fun z => nF (z ▸ hf)) ea), atI_nat ex, q _ d H Ext.refl b (e2.ext x hf) h⟩
theorem yd_tupLc {r : List V → Hp → VK → Prop} {i : Nat} {te : TE} {Ge : PyData → Prop} (hr : ∀ p ys H Q, H p = some (.lst ys) → (∀ l, H l = none → Q (.ref l) (L2.upd H l (.tup ys))) → r [.ref p] H Q) (hf : F f)
    (hn : ∀ H, Ext f H0 H → Fd f H → Trk F H → ∀ Q, (∀ j : Int, 0 ≤ j → j ≤ m → ∀ H', Ext f H H' → Fd f H' → Q [.int j] H') → ta σ H Q) (hm : m ≤ 1000)
    (he : ∀ D H1 (k : Nat), Ext f H0 H1 → H1 D = none → Yd f (Wth F D) H1 ((wipe σ [i]).set i (some (.int (0 + k)))) Ge te) (hw : ∀ y, wipe ((wipe σ [i]).set i y) [i] = wipe σ [i]) (hG : ∀ ds : List PyData, ds.length ≤ m → (∀ d ∈ ds, Ge d) → G (.tuple ds)) :
    Yd f F H0 σ G (tCB r (tCons (tLc (iRng1 ta) (gName i) tYes te [i]) tNil)) := by
  intro H Q x b c q
  refine hn H x b c _ fun j j0 j1 H2 x2 b2 => ⟨j, rfl, by omega, by omega, fun D nD => ?_⟩
  have c2 := c.ext x2 b2
  refine yd_lc (f := f) (F := F) (H0 := H0) (Ge := Ge) hf (x.trans x2) b2 c2 nD (by omega) (fun k hk => he D H2 k (x.trans x2) nD) hw (fun H' vs ds x3 b3 eD aD lD gD => ?_)
  refine hr D vs H' _ eD fun p np => ?_
  have s4 : Same H' (L2.upd H' p (.tup vs)) := same_upd np
  exact q _ (.tuple ds) _ ((x2.trans x3).trans (Ext.same s4)) (b3.same s4) (.tup ((c2.ext x3 b3).new np) upd_same (aD.wth.same s4)) (hG ds (by omega) gD)
/-- where a draw stands: its answer as a datum, and as an int -/
theorem rd_draw {k : Nat} {z : Int} {H : Hp} {Q : VK} (e : σ[k]? = some (some (.ref f))) (b : Fd f H) (hz : 0 < z ∧ z < 1073741824) (q : ∀ r H', 0 ≤ r → r < z → Ext f H H' → Fd f H' → Q (.int r) H') :
    tCall sp_draw [] E0 (tCons (tVar k) (tCons (tC (.int z)) tNil)) σ H Q := ⟨_, e, f, z, rfl, b, hz.1, hz.2, q⟩
theorem yd_draw {k : Nat} {z : Int} (e : σ[k]? = some (some (.ref f))) (hz : 0 < z ∧ z < 1073741824) : Yd f F H0 σ (Gn w n) (tCall sp_draw [] E0 (tCons (tVar k) (tCons (tC (.int z)) tNil))) :=
  fun H Q x b c q => rd_draw e b hz fun r H' r0 _ x1 b1 => q _ (.int r) H' x1 b1 (.int r) (gn_int (by omega))
end
section
variable {P : Program} {w : World} {K : PySem.W.Frag} {mg : Str → Option Value} {base : Heap}
theorem atI_int {α : Type} {xs : List α} {r : Int} {x : α} (h0 : 0 ≤ r) (h : xs[r.toNat]? = some x) : atI xs r = some x := by
  have er : r = ((r.toNat : Nat) : Int) := by omega
  rw [er]
  exact atI_nat h
/-! ### pick -/
def sp_pick : Sp := fun vs H Q _ => ∃ (f a : Addr) (xs : List V), vs = [.ref f, .ref a] ∧ Fd f H ∧ a ≠ f ∧ H a = some (.lst xs) ∧ 0 < xs.length ∧ xs.length ≤ 1000 ∧ ∀ (i : Nat) x H', xs[i]? = some x → Ext f H H' → Fd f H' → Q x H'
theorem ok__law_pick (T : Top K mg) : FnOk P w K mg base CX0 2 T._law_pick T._law_pick_d ["_law_feed", "_law_items"] sp_pick := by
  refine T._law_pick_f.ok sc__law_pick (fun vs H Q E h => ?_) (fun cdv A outer s H vs Q E hr h => ?_)
  · obtain ⟨f, a, xs, rfl, _⟩ := h
    rfl
  obtain ⟨f, a, xs, rfl, hF, ne, ea, l0, l1, q⟩ := h
  -- slots: 0 _law_feed, 1 _law_items
  refine ⟨_, (pss_one (ps_ret (pe_ix ix_list (pv 1) (pe_call (ok__law_draw T) (hr.mono (by decide)) rfl T._law_draw_g T._law_draw_k T._law_draw_b .nil pass0 (pa_cons (pv 0) (pa_cons (pe_callB call_len_seq (by rfl) T.len_n (by decide +kernel) (pa_cons (pv 1) pa_nil)) pa_nil))) (fun _ _ => rfl)))), ?_⟩
  refine ⟨_, rfl, _, rfl, _, rfl, a, _, rfl, .inl (SqL.of ea), f, _, rfl, hF, by omega, by omega, fun r H' r0 r1 x1 b1 => ?_⟩
  have ea' := x1 a _ ne ea
  have hr2 : r.toNat < xs.length := by omega
  have er : r = ((r.toNat : Nat) : Int) := by omega
  exact ⟨a, xs, r, xs[r.toNat], rfl, rfl, SqL.of ea', atI_int r0 (List.getElem?_eq_getElem hr2), q r.toNat _ _ (List.getElem?_eq_getElem hr2) x1 b1⟩
/-! ### written values -/
def okc : V → Bool
  | .non | .bl _ => true
  | .int i => decide (-(10 ^ 60) ≤ i)
  | .str x => PyData.strOk x && decide (x.length ≤ 100)
  | _ => false
theorem okc_da {F : AS} {H : Hp} {v : V} (h : okc v = true) : ∃ d, Da F H v d ∧ Gn 0 0 d := by
  cases v with
  | non => exact ⟨_, .non, rfl, Nat.le_refl _⟩
  | bl b => exact ⟨_, .bl b, rfl, Nat.le_refl _⟩
  | int i => exact ⟨_, .int i, h, Nat.le_refl _⟩
  | str x => exact ⟨_, .str x, h, Nat.le_refl _⟩
  | byt _ => cases h
  | flt _ => cases h
  | ref _ => cases h
  | ty _ => cases h
theorem okc_at {xs : List V} {i : Nat} {v : V} (h : xs.all okc = true) (e : xs[i]? = some v) : okc v = true := List.all_eq_true.mp h v (List.mem_of_getElem? e)
/-- pick(feed, [written ones]) -/
theorem rd_pickC {f : Addr} {σ : L2.St} {k : Nat} {H : Hp} {Q : VK} {ta : TA} {xs : List V} (e : σ[k]? = some (some (.ref f))) (b : Fd f H) (ht : ∀ H Q, Q xs H → ta σ H Q) (h0 : 0 < xs.length) (h1 : xs.length ≤ 1000)
    (q : ∀ x H', x ∈ xs → Ext f H H' → Fd f H' → Q x H') : tCall sp_pick [] E0 (tCons (tVar k) (tCons (tLst ta) tNil)) σ H Q := by
  refine ⟨_, e, ht _ _ ⟨Nat.le_of_lt (small1000 h1), fun p np => ?_⟩⟩
  have s1 : Same H (L2.upd H p (.lst xs)) := same_upd np
  have n1 : p ≠ f := fun z => by
    obtain ⟨g, s, e, _⟩ := b
    rw [z, e] at np
    cases np
  exact ⟨f, p, xs, rfl, b.same s1, n1, upd_same, h0, h1, fun i x H' ex x1 b1 => q x H' (List.mem_of_getElem? ex) ((Ext.same s1).trans x1) b1⟩
theorem yd_pickC {f : Addr} {F : AS} {H0 : Hp} {σ : L2.St} {k : Nat} {ta : TA} {xs : List V} (e : σ[k]? = some (some (.ref f))) (ht : ∀ H Q, Q xs H → ta σ H Q) (h0 : 0 < xs.length) (h1 : xs.length ≤ 1000) (ho : xs.all okc = true) {w n : Nat} :
    Yd f F H0 σ (Gn w n) (tCall sp_pick [] E0 (tCons (tVar k) (tCons (tLst ta) tNil))) := fun H Q x b c q => rd_pickC e b ht h0 h1 fun v H' hv x1 b1 => by
  obtain ⟨d, hd, g⟩ := okc_da (F := F) (H := H') (List.all_eq_true.mp ho v hv)
  exact q v d H' x1 b1 hd (g.mono (Nat.zero_le _) (Nat.zero_le _))
/-! ### any value -/
def sp_any (n : Nat) : Sp := fun vs H Q _ => ∃ (f : Addr) (F : AS) (k : Nat), vs = [.ref f, .int k] ∧ k < n ∧ k ≤ 3 ∧ Fd f H ∧ F f ∧ Trk F H ∧ ∀ v d H', Ext f H H' → Fd f H' → Da F H' v d → Gn 6 k d → Q v H'
theorem any0 {f : Addr} {fd : FuncData} : FnOk P w K mg base CX0 2 f fd ["_law_feed", "_law_deep"] (sp_any 0) :=
  ⟨fun vs H Q E h => by obtain ⟨f, F, k, _, h, _⟩ := h; omega, fun A outer s H args us vs Q E _ _ _ _ h => by obtain ⟨f, F, k, _, h, _⟩ := h; omega⟩
theorem any1 (T : Top K mg) {n : Nat} (IH : FnOk P w K mg base CX0 (n + 2) T._law_any_value T._law_any_value_d ["_law_feed", "_law_deep"] (sp_any n)) :
    FnOk P w K mg base CX0 (n + 3) T._law_any_value T._law_any_value_d ["_law_feed", "_law_deep"] (sp_any (n + 1)) := by
  refine T._law_any_value_f.ok sc__law_any_value (fun vs H Q E h => ?_) (fun cdv A outer s H vs Q E hr h => ?_)
  · obtain ⟨f, F, k, rfl, _⟩ := h
    rfl
  obtain ⟨f, F, k, rfl, hk, hk3, hF, hf, hT, q⟩ := h
  have hr1 : Room 1 _ := hr.mono (by omega)
  have hr2 : Room 2 _ := hr.mono (by omega)
  -- slots: 0 _law_feed, 1 _law_deep, 2 _law_form, 3 _law_some, 4 _law_turn
  refine ⟨_, (pss_cons (ps_set (i := 2) sc__law_any_value.nd rfl (.inl rfl) (pe_call (ok__law_draw T) hr1 rfl T._law_draw_g T._law_draw_k T._law_draw_b .nil pass0 (pa_cons (pv 0) (pa_cons pe_int pa_nil))))
      (pss_mid (ps_if (PW.pt (pw_and (pt_cmpR op_lt (pv 2) pe_int (nomark _)) (pw_and1 (pt_cmpR op_gt (pv 1) pe_int (nomark _))))) (pss_one (ps_ret (pe_callTy call_tuple_of (by rfl) T.tuple_n (by decide +kernel) (pa_cons (pe_lc (own := [("_law_turn", 4)]) (g := (gName 4)) (tt := tYes) (by rfl) sc__law_any_value.nd (pi_range1 (by rfl) T.range_n (pa_cons (pe_call (ok__law_draw T) hr1 rfl T._law_draw_g T._law_draw_k T._law_draw_b .nil pass0 (pa_cons (pv 0) (pa_cons pe_int pa_nil))) pa_nil)) (blkOk_by (own := [("_law_turn", 4)]) (N := ["_law_feed", "_law_deep", "_law_form", "_law_some", "_law_turn"]) (sc := defScope s__law_any_value) (by decide +kernel)) (fun _ _ _ _ _ => (pg_name (i := 4) sc__law_any_value.nd rfl (.inl rfl))) (fun _ _ _ _ _ => pts_nil) (fun _ _ _ _ _ => (pe_call IH hr rfl T._law_any_value_g T._law_any_value_k T._law_any_value_b0 T._law_any_value_v0 pass0 (pa_cons (pv 0) (pa_cons (pe_op op_sub (pv 1) pe_int) pa_nil))))) pa_nil)))) pss_nil)
      (pss_mid (ps_if (PW.pt (pw_and (pt_cmpR op_eq (pv 2) pe_int (nomark _)) (pw_and1 (pt_cmpR op_gt (pv 1) pe_int (nomark _))))) (pss_one (ps_ret (pe_lc (own := [("_law_turn", 4)]) (g := (gName 4)) (tt := tYes) (by rfl) sc__law_any_value.nd (pi_range1 (by rfl) T.range_n (pa_cons (pe_call (ok__law_draw T) hr1 rfl T._law_draw_g T._law_draw_k T._law_draw_b .nil pass0 (pa_cons (pv 0) (pa_cons pe_int pa_nil))) pa_nil)) (blkOk_by (own := [("_law_turn", 4)]) (N := ["_law_feed", "_law_deep", "_law_form", "_law_some", "_law_turn"]) (sc := defScope s__law_any_value) (by decide +kernel)) (fun _ _ _ _ _ => (pg_name (i := 4) sc__law_any_value.nd rfl (.inl rfl))) (fun _ _ _ _ _ => pts_nil) (fun _ _ _ _ _ => (pe_call IH hr rfl T._law_any_value_g T._law_any_value_k T._law_any_value_b0 T._law_any_value_v0 pass0 (pa_cons (pv 0) (pa_cons (pe_op op_sub (pv 1) pe_int) pa_nil))))))) pss_nil)
      (pss_cons (ps_set (i := 3) sc__law_any_value.nd rfl (.inl rfl) (pe_lst (pa_cons pe_int (pa_cons pe_int (pa_cons (pe_un un_neg pe_int) (pa_cons pe_int (pa_cons (pe_op op_pow pe_int pe_int) (pa_cons pe_bl (pa_cons pe_bl (pa_cons pe_non (pa_cons pe_str (pa_cons pe_str (pa_cons pe_str (pa_cons pe_str (pa_cons pe_str (pa_cons pe_str (pa_cons pe_str (pa_cons pe_str (pa_cons pe_str pa_nil)))))))))))))))))))
      (pss_cons (ps_set (i := 3) sc__law_any_value.nd rfl (.inl rfl) (pe_op op_cat (pv 3) (pe_lst (pa_cons pe_str (pa_cons pe_str (pa_cons pe_str (pa_cons pe_str (pa_cons pe_str (pa_cons pe_str (pa_cons pe_str (pa_cons pe_str (pa_cons pe_str (pa_cons pe_str (pa_cons pe_str (pa_cons pe_str pa_nil)))))))))))))))
      (pss_one (ps_ret (pe_call (ok__law_pick T) hr2 rfl T._law_pick_g T._law_pick_k T._law_pick_b .nil pass0 (pa_cons (pv 0) (pa_cons (pv 3) pa_nil)))))))))), ?_⟩
  refine ⟨_, rfl, f, 12, rfl, hF, by decide, by decide, fun r H1 r0 r1 x1 b1 => ?_⟩
  have c1 := hT.ext x1 b1
  -- the elements of a row
  have el : ∀ {D : Addr} {H2 : Hp} {σ' : L2.St}, 0 < k → Ext f H H2 → H2 D = none → σ'[0]? = some (some (.ref f)) → σ'[1]? = some (some (.int k)) →
      Yd f (Wth F D) H2 σ' (Gn 6 (k - 1)) (tCall (sp_any n) [] E0 (tCons (tVar 0) (tCons (tOp (rI0 fun i j => V.int (i - j)) (tVar 1) (tC (V.int 1))) tNil))) := by
    intro D H2 σ' h0 x2 nD e0 e1 H3 Q3 x3 b3 c3 q3
    refine ⟨_, e0, _, e1, _, _, rfl, rfl, f, Wth F D, k - 1, ?_, by omega, by omega, b3, .inl hf, c3, fun v d H' x y z g => q3 v d H' x y z g⟩
    have e : (k : Int) - 1 = ((k - 1 : Nat) : Int) := by omega
    show [V.ref f, V.int ((k : Int) - 1)] = _
    rw [e]
  refine ⟨fun σ H' => σ = [some (.ref f), some (.int k), some (.int r), none, none] ∧ H1 = H', ?_, ?_⟩
  · refine ⟨_, rfl, _, _, rfl, rfl, _, rfl, ite2 (fun e => ?_) (fun e => ⟨rfl, rfl⟩)⟩
    refine ⟨_, rfl, _, _, rfl, rfl, _, rfl, ite2 (fun e2 => ?_) (fun e2 => ⟨rfl, rfl⟩)⟩
    have k0 : 0 < k := by
      have := of_decide_eq_true e2
      omega
    refine ⟨_, rfl, f, 4, rfl, b1, by decide, by decide, fun j H2 j0 j1 x2 b2 => ⟨j, rfl, by omega, by omega, fun D nD => ?_⟩⟩
    refine yd_lc (f := f) (F := F) (H0 := H) (Ge := Gn 6 (k - 1)) hf (x1.trans x2) b2 (c1.ext x2 b2) nD (by omega) (fun i hi => el k0 (x1.trans x2) nD rfl rfl) (fun y => rfl) (fun H' vs ds x3 b3 eD aD lD gD => ?_)
    refine ⟨D, _, rfl, .inl ⟨SqL.of eD, fun p np => ?_⟩⟩
    have s4 : Same H' (L2.upd H' p (.tup vs)) := same_upd np
    refine q _ (.tuple ds) _ ((x1.trans (x2.trans x3)).trans (Ext.same s4)) (b3.same s4) (.tup (((c1.ext x2 b2).ext x3 b3).new np) upd_same (aD.wth.same s4)) ?_
    have z := Gn.tuple (w := 6) (n := k - 1) (ds := ds) (by omega) gD
    exact z.mono (Nat.le_refl _) (by omega)
  rintro _ _ ⟨rfl, rfl⟩
  refine ⟨fun σ H' => σ = [some (.ref f), some (.int k), some (.int r), none, none] ∧ H1 = H', ?_, ?_⟩
  · refine ⟨_, rfl, rfl, _, rfl, ite2 (fun e => ?_) (fun e => ⟨rfl, rfl⟩)⟩
    refine ⟨_, rfl, _, _, rfl, rfl, _, rfl, ite2 (fun e2 => ?_) (fun e2 => ⟨rfl, rfl⟩)⟩
    have k0 : 0 < k := by
      have := of_decide_eq_true e2
      omega
    refine ⟨_, rfl, f, 3, rfl, b1, by decide, by decide, fun j H2 j0 j1 x2 b2 => ⟨j, rfl, by omega, by omega, fun D nD => ?_⟩⟩
    refine yd_lc (f := f) (F := F) (H0 := H) (Ge := Gn 6 (k - 1)) hf (x1.trans x2) b2 (c1.ext x2 b2) nD (by omega) (fun i hi => el k0 (x1.trans x2) nD rfl rfl) (fun y => rfl) (fun H' vs ds x3 b3 eD aD lD gD => ?_)
    refine q _ (.list ds) _ (x1.trans (x2.trans x3)) b3 (.lst ((c1.ext x2 b2).new nD) eD aD.wth) ?_
    have z := Gn.list (w := 6) (n := k - 1) (ds := ds) (by omega) gD
    exact z.mono (Nat.le_refl _) (by omega)
  rintro _ _ ⟨rfl, rfl⟩
  refine ⟨_, rfl, _, _, rfl, rfl, ⟨by decide, by decide, by decide⟩, by decide, fun p np => ?_⟩
  refine ⟨_, rfl, by decide, fun p2 np2 => ?_⟩
  refine ⟨p, p2, _, _, rfl, rfl, same_upd np2 _ _ upd_same, upd_same, by decide, fun p3 np3 => ?_⟩
  have sm : ∀ o, Same H1 (L2.upd _ p3 o) := fun o => ((same_upd np).trans (same_upd np2)).trans (same_upd np3)
  have n3 : p3 ≠ f := fun z => by
    obtain ⟨g, s, e, _⟩ := b1.same ((same_upd np).trans (same_upd np2))
    rw [z, e] at np3
    cases np3
  refine ⟨_, rfl, _, rfl, f, p3, _, rfl, b1.same (sm _), n3, upd_same, by decide, by decide, fun i x H' ex x4 b4 => ?_⟩
  obtain ⟨d, hd, g⟩ := okc_da (F := F) (H := H') (okc_at (by decide +kernel) ex)
  exact q x d H' ((x1.trans (Ext.same (sm _))).trans x4) b4 hd (g.mono (by decide) (Nat.zero_le _))
theorem ok_any (T : Top K mg) : ∀ n : Nat, FnOk P w K mg base CX0 (n + 2) T._law_any_value T._law_any_value_d ["_law_feed", "_law_deep"] (sp_any n)
  | 0 => any0
  | n + 1 => any1 T (ok_any T n)
theorem ok__law_any_value (T : Top K mg) : FnOk P w K mg base CX0 6 T._law_any_value T._law_any_value_d ["_law_feed", "_law_deep"] (sp_any 4) := ok_any T 4
end
end Sa

set_option Elab.async false
set_option linter.all false
set_option maxRecDepth 100000
set_option maxHeartbeats 4000000
namespace Sa
open PySem PySem.Spec PyProof.Rows L2 NdefX
/-- an own __init__ of the text, as it stands behind the top -/
structure IniF (P : Program) (K : PySem.W.Frag) (mg : Str → Option Value) (st : Stmt) (qual : Str) (C f : Addr) (fd : FuncData) : Prop where
  ex : ∃ (cc c : Addr) (oc kV doc pm ct od2 ocl : Value) (od an odl odc : Option Addr) (osl sll slc : Array (Option Value)) (vs0 : Array Value) (file : Str) (tf : Tok), fd = PySem.W.fnX "__init__" qual (defArgs st) (defBody st) (defScope st) [("__class__", cc)] .none kV doc pm an (.ref c) ct ∧
    K.lookup f = some ⟨oc, od, .func fd, osl⟩ ∧ PySem.W.codeIn K (.ref c) qual = true ∧ K.lookup cc = some ⟨od2, odl, .cell (some (.ref C)), sll⟩ ∧ K.lookup c = some ⟨ocl, odc, .fields vs0, slc⟩ ∧ vs0[2]? = some (.str file tf) ∧
    ((P.main.file : Str) == file) = true ∧ (P.main.scope.names.lookup ("super" : Str)).isSome = false ∧ mg "super" = none
def spI1 (C : Addr) (f : Str) : Sp := fun vs H Q _ => ∃ (a : Addr) (x : V), vs = [.ref a, x] ∧ H a = some (exo a C none) ∧ ∀ dx, H dx = none → dx ≠ a → Q .non (L2.upd (L2.upd H dx (exd dx [(f, x)])) a (exo a C (some dx)))
def spI2 (C : Addr) (f g : Str) : Sp := fun vs H Q _ => ∃ (a : Addr) (x y : V), vs = [.ref a, x, y] ∧ H a = some (exo a C none) ∧ ∀ dx, H dx = none → dx ≠ a → Q .non (L2.upd (L2.upd (L2.upd H dx (exd dx [(f, x)])) a (exo a C (some dx))) dx (exd dx [(g, y), (f, x)]))
section
variable {P : Program} {w : World} {K : PySem.W.Frag} {mg : Str → Option Value} {base : Heap} {C S f : Addr} {fd : FuncData}
abbrev s_NoBook : Stmt := inClass (topS 2) 0
theorem sc_NoBook : NScope ["self", "row", "why", "__class__"] ["self", "row", "why"] ["__class__"] (defScope s_NoBook) := nscope_by (by decide +kernel)
theorem oki_NoBook (I : IniF P K mg s_NoBook "NoBook.__init__" C f fd) (T : SupC K C S) (h0 : PySem.W.findIn K (.ref C) "row" = some none) (h1 : PySem.W.findIn K (.ref C) "why" = some none) : FnOk P w K mg base CX0 1 f fd ["self", "row", "why"] (spI2 C "row" "why") := by
  obtain ⟨cc, c, oc, kV, doc, pm, ct, od2, ocl, od, an, odl, odc, osl, sll, slc, vs0, file, tf, rfl, lk, hcd, hcell, hcc, hvs, hfile, htop, hms⟩ := I.ex
  refine init_fn (F := ⟨"__init__", "NoBook.__init__", defArgs s_NoBook, defBody s_NoBook, defScope s_NoBook, [("__class__", cc)], c⟩) (S := S) (k := 0) (N := ["self", "row", "why", "__class__"]) lk hcd sc_NoBook rfl hcell T hcc hvs hfile htop hms rfl rfl rfl rfl rfl (fun vs H Q E h => ?_) (fun L => ⟨_, rfl⟩) (fun L => rfl) (fun L => rfl) (fun L => rfl) (fun L => rfl) (fun A outer s H vs Q E h => ?_)
  · obtain ⟨a, x, y, rfl, _⟩ := h
    rfl
  obtain ⟨a, x, y, rfl, ea, q⟩ := h
  refine ⟨a, _, _, rfl, ea, pa_cons (pv 1) (pa_cons (pv 2) pa_nil), pss_cons (ps_ost (pv 0) (pv 1)) (pss_one (ps_ost (pv 0) (pv 2))), ?_⟩
  refine ⟨_, rfl, _, rfl, by simp, ea, _, rfl, _, rfl, a, C, rfl, T.oex, h0, .inl ⟨ea, fun dx nd ne => ?_⟩⟩
  exact ⟨_, rfl, _, rfl, a, C, rfl, T.oex, h1, .inr ⟨dx, [("row", x)], upd_same, by rw [upd_ne ne, upd_same], (by simp), q dx nd ne⟩⟩
abbrev s_NoProgram : Stmt := inClass (topS 5) 0
theorem sc_NoProgram : NScope ["self", "row", "why", "__class__"] ["self", "row", "why"] ["__class__"] (defScope s_NoProgram) := nscope_by (by decide +kernel)
theorem oki_NoProgram (I : IniF P K mg s_NoProgram "NoProgram.__init__" C f fd) (T : SupC K C S) (h0 : PySem.W.findIn K (.ref C) "row" = some none) (h1 : PySem.W.findIn K (.ref C) "why" = some none) : FnOk P w K mg base CX0 1 f fd ["self", "row", "why"] (spI2 C "row" "why") := by
  obtain ⟨cc, c, oc, kV, doc, pm, ct, od2, ocl, od, an, odl, odc, osl, sll, slc, vs0, file, tf, rfl, lk, hcd, hcell, hcc, hvs, hfile, htop, hms⟩ := I.ex
  refine init_fn (F := ⟨"__init__", "NoProgram.__init__", defArgs s_NoProgram, defBody s_NoProgram, defScope s_NoProgram, [("__class__", cc)], c⟩) (S := S) (k := 0) (N := ["self", "row", "why", "__class__"]) lk hcd sc_NoProgram rfl hcell T hcc hvs hfile htop hms rfl rfl rfl rfl rfl (fun vs H Q E h => ?_) (fun L => ⟨_, rfl⟩) (fun L => rfl) (fun L => rfl) (fun L => rfl) (fun L => rfl) (fun A outer s H vs Q E h => ?_)
  · obtain ⟨a, x, y, rfl, _⟩ := h
    rfl
  obtain ⟨a, x, y, rfl, ea, q⟩ := h
  refine ⟨a, _, _, rfl, ea, pa_cons (pv 1) (pa_cons (pv 2) pa_nil), pss_cons (ps_ost (pv 0) (pv 1)) (pss_one (ps_ost (pv 0) (pv 2))), ?_⟩
  refine ⟨_, rfl, _, rfl, by simp, ea, _, rfl, _, rfl, a, C, rfl, T.oex, h0, .inl ⟨ea, fun dx nd ne => ?_⟩⟩
  exact ⟨_, rfl, _, rfl, a, C, rfl, T.oex, h1, .inr ⟨dx, [("row", x)], upd_same, by rw [upd_ne ne, upd_same], (by simp), q dx nd ne⟩⟩
abbrev s_NoText : Stmt := inClass (topS 3) 0
theorem sc_NoText : NScope ["self", "at", "__class__"] ["self", "at"] ["__class__"] (defScope s_NoText) := nscope_by (by decide +kernel)
theorem oki_NoText (I : IniF P K mg s_NoText "NoText.__init__" C f fd) (T : SupC K C S) (h0 : PySem.W.findIn K (.ref C) "at" = some none) : FnOk P w K mg base CX0 1 f fd ["self", "at"] (spI1 C "at") := by
  obtain ⟨cc, c, oc, kV, doc, pm, ct, od2, ocl, od, an, odl, odc, osl, sll, slc, vs0, file, tf, rfl, lk, hcd, hcell, hcc, hvs, hfile, htop, hms⟩ := I.ex
  refine init_fn (F := ⟨"__init__", "NoText.__init__", defArgs s_NoText, defBody s_NoText, defScope s_NoText, [("__class__", cc)], c⟩) (S := S) (k := 0) (N := ["self", "at", "__class__"]) lk hcd sc_NoText rfl hcell T hcc hvs hfile htop hms rfl rfl rfl rfl rfl (fun vs H Q E h => ?_) (fun L => ⟨_, rfl⟩) (fun L => rfl) (fun L => rfl) (fun L => rfl) (fun L => rfl) (fun A outer s H vs Q E h => ?_)
  · obtain ⟨a, x, rfl, _⟩ := h
    rfl
  obtain ⟨a, x, rfl, ea, q⟩ := h
  refine ⟨a, _, _, rfl, ea, pa_cons (pv 1) pa_nil, pss_one (ps_ost (pv 0) (pv 1)), ?_⟩
  exact ⟨_, rfl, by simp, ea, _, rfl, _, rfl, a, C, rfl, T.oex, h0, .inl ⟨ea, fun dx nd ne => q dx nd ne⟩⟩
abbrev s_NoTree : Stmt := inClass (topS 4) 0
theorem sc_NoTree : NScope ["self", "path", "__class__"] ["self", "path"] ["__class__"] (defScope s_NoTree) := nscope_by (by decide +kernel)
theorem oki_NoTree (I : IniF P K mg s_NoTree "NoTree.__init__" C f fd) (T : SupC K C S) (h0 : PySem.W.findIn K (.ref C) "path" = some none) : FnOk P w K mg base CX0 1 f fd ["self", "path"] (spI1 C "path") := by
  obtain ⟨cc, c, oc, kV, doc, pm, ct, od2, ocl, od, an, odl, odc, osl, sll, slc, vs0, file, tf, rfl, lk, hcd, hcell, hcc, hvs, hfile, htop, hms⟩ := I.ex
  refine init_fn (F := ⟨"__init__", "NoTree.__init__", defArgs s_NoTree, defBody s_NoTree, defScope s_NoTree, [("__class__", cc)], c⟩) (S := S) (k := 0) (N := ["self", "path", "__class__"]) lk hcd sc_NoTree rfl hcell T hcc hvs hfile htop hms rfl rfl rfl rfl rfl (fun vs H Q E h => ?_) (fun L => ⟨_, rfl⟩) (fun L => rfl) (fun L => rfl) (fun L => rfl) (fun L => rfl) (fun A outer s H vs Q E h => ?_)
  · obtain ⟨a, x, rfl, _⟩ := h
    rfl
  obtain ⟨a, x, rfl, ea, q⟩ := h
  refine ⟨a, _, _, rfl, ea, pa_cons (pv 1) pa_nil, pss_one (ps_ost (pv 0) (pv 1)), ?_⟩
  exact ⟨_, rfl, by simp, ea, _, rfl, _, rfl, a, C, rfl, T.oex, h0, .inl ⟨ea, fun dx nd ne => q dx nd ne⟩⟩
abbrev s_NoKind : Stmt := inClass (topS 7) 0
theorem sc_NoKind : NScope ["self", "path", "__class__"] ["self", "path"] ["__class__"] (defScope s_NoKind) := nscope_by (by decide +kernel)
theorem oki_NoKind (I : IniF P K mg s_NoKind "NoKind.__init__" C f fd) (T : SupC K C S) (h0 : PySem.W.findIn K (.ref C) "path" = some none) : FnOk P w K mg base CX0 1 f fd ["self", "path"] (spI1 C "path") := by
  obtain ⟨cc, c, oc, kV, doc, pm, ct, od2, ocl, od, an, odl, odc, osl, sll, slc, vs0, file, tf, rfl, lk, hcd, hcell, hcc, hvs, hfile, htop, hms⟩ := I.ex
  refine init_fn (F := ⟨"__init__", "NoKind.__init__", defArgs s_NoKind, defBody s_NoKind, defScope s_NoKind, [("__class__", cc)], c⟩) (S := S) (k := 0) (N := ["self", "path", "__class__"]) lk hcd sc_NoKind rfl hcell T hcc hvs hfile htop hms rfl rfl rfl rfl rfl (fun vs H Q E h => ?_) (fun L => ⟨_, rfl⟩) (fun L => rfl) (fun L => rfl) (fun L => rfl) (fun L => rfl) (fun A outer s H vs Q E h => ?_)
  · obtain ⟨a, x, rfl, _⟩ := h
    rfl
  obtain ⟨a, x, rfl, ea, q⟩ := h
  refine ⟨a, _, _, rfl, ea, pa_cons (pv 1) pa_nil, pss_one (ps_ost (pv 0) (pv 1)), ?_⟩
  exact ⟨_, rfl, by simp, ea, _, rfl, _, rfl, a, C, rfl, T.oex, h0, .inl ⟨ea, fun dx nd ne => q dx nd ne⟩⟩
abbrev s_NoPlace : Stmt := inClass (topS 8) 0
theorem sc_NoPlace : NScope ["self", "path", "__class__"] ["self", "path"] ["__class__"] (defScope s_NoPlace) := nscope_by (by decide +kernel)
theorem oki_NoPlace (I : IniF P K mg s_NoPlace "NoPlace.__init__" C f fd) (T : SupC K C S) (h0 : PySem.W.findIn K (.ref C) "path" = some none) : FnOk P w K mg base CX0 1 f fd ["self", "path"] (spI1 C "path") := by
  obtain ⟨cc, c, oc, kV, doc, pm, ct, od2, ocl, od, an, odl, odc, osl, sll, slc, vs0, file, tf, rfl, lk, hcd, hcell, hcc, hvs, hfile, htop, hms⟩ := I.ex
  refine init_fn (F := ⟨"__init__", "NoPlace.__init__", defArgs s_NoPlace, defBody s_NoPlace, defScope s_NoPlace, [("__class__", cc)], c⟩) (S := S) (k := 0) (N := ["self", "path", "__class__"]) lk hcd sc_NoPlace rfl hcell T hcc hvs hfile htop hms rfl rfl rfl rfl rfl (fun vs H Q E h => ?_) (fun L => ⟨_, rfl⟩) (fun L => rfl) (fun L => rfl) (fun L => rfl) (fun L => rfl) (fun A outer s H vs Q E h => ?_)
  · obtain ⟨a, x, rfl, _⟩ := h
    rfl
  obtain ⟨a, x, rfl, ea, q⟩ := h
  refine ⟨a, _, _, rfl, ea, pa_cons (pv 1) pa_nil, pss_one (ps_ost (pv 0) (pv 1)), ?_⟩
  exact ⟨_, rfl, by simp, ea, _, rfl, _, rfl, a, C, rfl, T.oex, h0, .inl ⟨ea, fun dx nd ne => q dx nd ne⟩⟩
abbrev s_TooMany : Stmt := inClass (topS 9) 0
theorem sc_TooMany : NScope ["self", "most", "__class__"] ["self", "most"] ["__class__"] (defScope s_TooMany) := nscope_by (by decide +kernel)
theorem oki_TooMany (I : IniF P K mg s_TooMany "TooMany.__init__" C f fd) (T : SupC K C S) (h0 : PySem.W.findIn K (.ref C) "most" = some none) : FnOk P w K mg base CX0 1 f fd ["self", "most"] (spI1 C "most") := by
  obtain ⟨cc, c, oc, kV, doc, pm, ct, od2, ocl, od, an, odl, odc, osl, sll, slc, vs0, file, tf, rfl, lk, hcd, hcell, hcc, hvs, hfile, htop, hms⟩ := I.ex
  refine init_fn (F := ⟨"__init__", "TooMany.__init__", defArgs s_TooMany, defBody s_TooMany, defScope s_TooMany, [("__class__", cc)], c⟩) (S := S) (k := 0) (N := ["self", "most", "__class__"]) lk hcd sc_TooMany rfl hcell T hcc hvs hfile htop hms rfl rfl rfl rfl rfl (fun vs H Q E h => ?_) (fun L => ⟨_, rfl⟩) (fun L => rfl) (fun L => rfl) (fun L => rfl) (fun L => rfl) (fun A outer s H vs Q E h => ?_)
  · obtain ⟨a, x, rfl, _⟩ := h
    rfl
  obtain ⟨a, x, rfl, ea, q⟩ := h
  refine ⟨a, _, _, rfl, ea, pa_cons (pv 1) pa_nil, pss_one (ps_ost (pv 0) (pv 1)), ?_⟩
  exact ⟨_, rfl, by simp, ea, _, rfl, _, rfl, a, C, rfl, T.oex, h0, .inl ⟨ea, fun dx nd ne => q dx nd ne⟩⟩
end
end Sa

set_option Elab.async false
set_option linter.all false
set_option maxRecDepth 100000
set_option maxHeartbeats 4000000
namespace Sa
open PySem PySem.Spec PyProof.Rows L2
/-! ### isinstance of data -/
def tyName : PyData → String
  | .none => "NoneType"
  | .bool _ => "bool"
  | .int _ => "int"
  | .str _ => "str"
  | .list _ => "list"
  | .tuple _ => "tuple"
  | .dict _ => "dict"
theorem Da.ty {K : PySem.W.Frag} {F : AS} {H : Hp} {v : V} {d : PyData} (h : Da F H v d) : TyX K H v (.type (tyName d)) := by
  cases h with
  | non => exact .base .non
  | bl b => exact .base (.bl b)
  | int i => exact .base (.int i)
  | str x => exact .base (.str x)
  | lst _ e _ => exact .base (.lst e)
  | tup _ e _ => exact .base (.tup e)
def isTup : PyData → Bool
  | .tuple _ => true
  | _ => false
def isLst : PyData → Bool
  | .list _ => true
  | _ => false
def isBool : PyData → Bool
  | .bool _ => true
  | _ => false
theorem kit_tup (d : PyData) : kitB (tyName d) "tuple" = some (isTup d) := by cases d <;> (simp only [tyName, isTup]; decide +kernel)
theorem kit_lst (d : PyData) : kitB (tyName d) "list" = some (isLst d) := by cases d <;> (simp only [tyName, isLst]; decide +kernel)
theorem kit_bool (d : PyData) : kitB (tyName d) "bool" = some (isBool d) := by cases d <;> (simp only [tyName, isBool]; decide +kernel)
/-! ### rows of pairs -/
structure PIz (J : It) (xs ys : List V) (G : Hp → Prop) : Prop where
  go : ∀ i H, G H → i < xs.length → J.go i H
  stop : ∀ i H, G H → xs.length ≤ i → J.stop i H
  yld : ∀ i H v H', G H → J.yld i H v H' → ∃ T x y, v = .ref T ∧ H T = none ∧ H' = L2.upd H T (.tup [x, y]) ∧ xs[i]? = some x ∧ ys[i]? = some y
theorem piz_l {K : PySem.W.Frag} {a b : Addr} {xs ys : List V} (hl : xs.length = ys.length) : PIz (Itz K a b) xs ys (fun H => SqL K H a xs ∧ SqL K H b ys) :=
  ⟨fun i H g h => ⟨xs, ys, xs[i], ys[i], g.1, g.2, List.getElem?_eq_getElem h, List.getElem?_eq_getElem (by omega)⟩, fun i H g h => ⟨xs, ys, g.1, g.2, .inl h⟩, fun i H v H' g h => by
    obtain ⟨T, x, y, e1, e2, e3, f1, f2⟩ := h
    exact ⟨T, x, y, e1, e2, e3, f1 xs g.1, f2 ys g.2⟩⟩
theorem piz_t {K : PySem.W.Frag} {a b : Addr} {xs ys : List V} (hl : xs.length = ys.length) : PIz (RZ.ItzT K a b) xs ys (fun H => SqT K H a xs ∧ SqT K H b ys) :=
  ⟨fun i H g h => ⟨xs, ys, xs[i], ys[i], g.1, g.2, List.getElem?_eq_getElem h, List.getElem?_eq_getElem (by omega)⟩, fun i H g h => ⟨xs, ys, g.1, g.2, .inl h⟩, fun i H v H' g h => by
    obtain ⟨T, x, y, e1, e2, e3, f1, f2⟩ := h
    exact ⟨T, x, y, e1, e2, e3, f1 xs g.1, f2 ys g.2⟩⟩
theorem lcZ {K : PySem.W.Frag} {J : It} {xs ys : List V} {G : Hp → Prop} (pi : PIz J xs ys G) {σ : L2.St} {j k : Nat} {te : TE} {H1 : Hp} {D : Addr} {Qd : Hp → Prop} (out : List V) (ho : out.length = xs.length) (hl : xs.length < sizeLine) (nD : H1 D = none) (hG : ∀ H', Same H1 H' → G H')
    (he : ∀ (i : Nat) x y z H, xs[i]? = some x → ys[i]? = some y → out[i]? = some z → Same H1 H → ∀ Q : VK, (∀ H', Same H H' → Q z H') → te (((wipe σ [j, k]).set j (some x)).set k (some y)) H Q)
    (hw : ∀ x y, wipe (((wipe σ [j, k]).set j x).set k y) [j, k] = wipe σ [j, k]) (q : ∀ H', Same H1 H' → H' D = some (.lst out) → Qd H') :
    ∃ W : Nat → Nat → Hp → Prop, (∃ m, W 0 m (L2.upd H1 D (.lst []))) ∧ ∀ i m H, W i m H →
      (J.stop i H ∧ Qd H) ∨ (J.go i H ∧ ∃ Nx : Hp → Prop, (∀ H', Nx H' → ∃ m', m' < m ∧ W (i + 1) m' H') ∧ ∀ x H', J.yld i H x H' → gTup K 2 (gCons (gName j) (gCons (gName k) gNil)) x (wipe σ [j, k]) H' fun σ2 H2 => wipe σ2 [j, k] = wipe σ [j, k] ∧ tYes σ2 H2 fun b H3 =>
        if b = true then te σ2 H3 fun y H4 => ∃ acc, H4 D = some (.lst acc) ∧ acc.length < sizeLine ∧ Nx (L2.upd H4 D (.lst (acc ++ [y]))) else Nx H3) := by
  refine ⟨fun i m H => i + m = xs.length ∧ Same H1 H ∧ H D = some (.lst (out.take i)), ⟨xs.length, by omega, same_upd nD, upd_same⟩, ?_⟩
  rintro i m H ⟨hm, sm, eD⟩
  by_cases hi : i < xs.length
  · refine .inr ⟨pi.go i H (hG H sm) hi, fun H' => Same H1 H' ∧ H' D = some (.lst (out.take (i + 1))), fun H' h => ⟨m - 1, by omega, by omega, h⟩, fun x H' hy => ?_⟩
    obtain ⟨T, x, y, rfl, nT, rfl, ex, ey⟩ := pi.yld i H x H' (hG H sm) hy
    have eo : out[i]? = some out[i] := List.getElem?_eq_getElem (by omega)
    have s2 : Same H (L2.upd H T (.tup [x, y])) := same_upd nT
    refine ⟨T, [x, y], rfl, SqT.of upd_same, rfl, x, [y], rfl, y, [], rfl, rfl, hw _ _, he i x y _ _ ex ey eo (sm.trans s2) _ fun H4 s4 => ?_⟩
    have s5 := s2.trans s4
    refine ⟨_, s5 _ _ eD, by rw [List.length_take]; omega, fun b o e => ?_, ?_⟩
    · rw [upd_ne (ne_of_none e nD)]
      exact s5 _ _ (sm _ _ e)
    · rw [upd_same, List.take_add_one, eo]
      rfl
  · refine .inl ⟨pi.stop i H (hG H sm) (by omega), q H sm ?_⟩
    rw [eD, List.take_of_length_le (by omega)]
/-! ### same data -/
section
variable {P : Program} {w : World} {K : PySem.W.Frag} {mg : Str → Option Value} {base : Heap}
def leaf : PyData → Bool
  | .none | .bool _ | .int _ | .str _ => true
  | _ => false
theorem kit_seq (d : PyData) : PySem.W.kitAny K (.type (tyName d)) [.type "tuple", .type "list"] = some (isTup d || isLst d) := by
  refine kitAny_cons (kit_ty (kit_tup d)) (fun z => kitAny_cons (kit_ty (kit_lst d)) (fun y => ?_) fun y => ?_) fun z => ?_
  · rw [z, y]; rfl
  · rw [z, y]; rfl
  · rw [z]; rfl
theorem ifSo {A B : Prop} {c : Bool} (e : c = true) (h : A) : if c = true then A else B := by
  rw [if_pos e]; exact h
theorem ifNo {A B : Prop} {c : Bool} (e : c = false) (h : B) : if c = true then A else B := by
  subst e
  rw [if_neg Bool.false_ne_true]; exact h
theorem rep_at {α : Type} {n i : Nat} {a b : α} (h : (List.replicate n a)[i]? = some b) : b = a := List.eq_of_mem_replicate (List.mem_of_getElem? h)
theorem rep_map {n : Nat} : List.replicate n (V.bl true) = (List.replicate n true).map V.bl := by rw [List.map_replicate]
theorem rep_all {n : Nat} : (List.replicate n true).all id = true := by simp
theorem leaf_eqv {d : PyData} (h : leaf d = true) : PyData.eqv d d = true := by
  cases d with
  | none => simp [PyData.eqv]
  | bool b => simp [PyData.eqv]
  | int i => simp [PyData.eqv]
  | str x => simp [PyData.eqv]
  | list _ => cases h
  | tuple _ => cases h
  | dict _ => cases h
def sp_same (n : Nat) : Sp := fun vs H Q _ => ∃ (F F' : AS) (v u : V) (d : PyData) (w m : Nat), vs = [v, u] ∧ Da F H v d ∧ Da F' H u d ∧ Gn w m d ∧ m < n ∧ m ≤ 60 ∧ w ≤ 1000 ∧ ∀ H', Same H H' → Q (.bl true) H'
theorem same0 {f : Addr} {fd : FuncData} : FnOk P w K mg base CX0 0 f fd ["_law_found", "_law_due"] (sp_same 0) :=
  ⟨fun vs H Q E h => by obtain ⟨F, F', v, u, d, w, m, _, _, _, _, h, _⟩ := h; omega, fun A outer s H args us vs Q E _ _ _ _ h => by obtain ⟨F, F', v, u, d, w, m, _, _, _, _, h, _⟩ := h; omega⟩
theorem same1 (T : Top K mg) {n : Nat} (IH : FnOk P w K mg base CX0 n T._law_same T._law_same_d ["_law_found", "_law_due"] (sp_same n)) :
    FnOk P w K mg base CX0 (n + 1) T._law_same T._law_same_d ["_law_found", "_law_due"] (sp_same (n + 1)) := by
  refine T._law_same_f.ok sc__law_same (fun vs H Q E h => ?_) (fun cdv A outer s H vs Q E hr h => ?_)
  · obtain ⟨F, F', v, u, d, w, m, rfl, _⟩ := h
    rfl
  obtain ⟨F, F', v, u, d, w', m, rfl, ha, hb, hg, hm, hm60, hw, q⟩ := h
  -- slots: 0 _law_found, 1 _law_due, 2 _law_one, 3 _law_other
  refine ⟨_, (pss_cons (ps_if (pt_val (pe_callB call_isiT (by rfl) T.isinstance_n (by decide +kernel) (pa_cons (pv 1) (pa_cons (pe_tup (pa_cons (pe_bltn (v := .ty "tuple") (u := .type "tuple") (by rfl) T.tuple_n (by decide +kernel) rfl) (pa_cons (pe_bltn (v := .ty "list") (u := .type "list") (by rfl) T.list_n (by decide +kernel) rfl) pa_nil))) pa_nil)))) (pss_cons (ps_if (PW.pt (pw_or (pt_cmpR op_ne (pe_callB call_isi (by rfl) T.isinstance_n (by decide +kernel) (pa_cons (pv 0) (pa_cons (pe_bltn (v := .ty "tuple") (u := .type "tuple") (by rfl) T.tuple_n (by decide +kernel) rfl) pa_nil))) (pe_callB call_isi (by rfl) T.isinstance_n (by decide +kernel) (pa_cons (pv 1) (pa_cons (pe_bltn (v := .ty "tuple") (u := .type "tuple") (by rfl) T.tuple_n (by decide +kernel) rfl) pa_nil))) (nomark _)) (pw_or1 (pt_cmpR op_ne (pe_callB call_isi (by rfl) T.isinstance_n (by decide +kernel) (pa_cons (pv 0) (pa_cons (pe_bltn (v := .ty "list") (u := .type "list") (by rfl) T.list_n (by decide +kernel) rfl) pa_nil))) (pe_callB call_isi (by rfl) T.isinstance_n (by decide +kernel) (pa_cons (pv 1) (pa_cons (pe_bltn (v := .ty "list") (u := .type "list") (by rfl) T.list_n (by decide +kernel) rfl) pa_nil))) (nomark _))))) (pss_one (ps_ret pe_bl)) pss_nil)
      (pss_one (ps_ret (pe_and (pe_cmpR op_eq (pe_callB call_len_seq (by rfl) T.len_n (by decide +kernel) (pa_cons (pv 0) pa_nil)) (pe_callB call_len_seq (by rfl) T.len_n (by decide +kernel) (pa_cons (pv 1) pa_nil)) (nomark _)) (pe_one (pe_callB (cr_all rfl) (by rfl) T.all_n (by decide +kernel) (pa_cons (pe_lc (own := [("_law_one", 2), ("_law_other", 3)]) (g := (gTup K 2 (gCons (gName 2) (gCons (gName 3) gNil)))) (tt := tYes) (by rfl) sc__law_same.nd (RZ.pi_zipA (by rfl) T.zip_n (pa_cons (pv 0) (pa_cons (pv 1) pa_nil))) (blkOk_by (own := [("_law_one", 2), ("_law_other", 3)]) (N := ["_law_found", "_law_due", "_law_one", "_law_other"]) (sc := defScope s__law_same) (by decide +kernel)) (fun _ _ _ _ _ => (pg_tup rfl (pgs_cons (pg_name (i := 2) sc__law_same.nd rfl (.inl rfl)) (pgs_cons (pg_name (i := 3) sc__law_same.nd rfl (.inl rfl)) pgs_nil)))) (fun _ _ _ _ _ => pts_nil) (fun _ _ _ _ _ => (pe_call IH hr rfl T._law_same_g T._law_same_k T._law_same_b .nil pass0 (pa_cons (pv 2) (pa_cons (pv 3) pa_nil))))) pa_nil))))))) pss_nil)
      (pss_one (ps_ret (pe_and (pe_cmpR op_eq (pe_callB call_isi (by rfl) T.isinstance_n (by decide +kernel) (pa_cons (pv 0) (pa_cons (pe_bltn (v := .ty "bool") (u := .type "bool") (by rfl) T.bool_n (by decide +kernel) rfl) pa_nil))) (pe_callB call_isi (by rfl) T.isinstance_n (by decide +kernel) (pa_cons (pv 1) (pa_cons (pe_bltn (v := .ty "bool") (u := .type "bool") (by rfl) T.bool_n (by decide +kernel) rfl) pa_nil))) (nomark _)) (pe_one (pe_cmpR (op_eqD hr.units) (pv 0) (pv 1) (nomark _))))))), ?_⟩
  refine ⟨_, rfl, by decide, fun p np => ?_⟩
  have s1 := same_upd (o := .tup [.ty "tuple", .ty "list"]) np
  have ha1 := ha.same s1
  have hb1 := hb.same s1
  refine ⟨_, p, _, _, [.type "tuple", .type "list"], _, rfl, upd_same, .cons (.ty _) (.cons (.ty _) .nil), hb1.ty, kit_seq d, _, rfl, ?_⟩
  by_cases hl : leaf d = true
  · have e0 : (isTup d || isLst d) = false := by cases d <;> first | rfl | cases hl
    refine ifNo e0 ?_
    refine ⟨_, rfl, _, _, _, _, _, rfl, .ty _, ha1.ty, kit_ty (kit_bool d), _, rfl, _, _, _, _, _, rfl, .ty _, hb1.ty, kit_ty (kit_bool d), rfl, _, rfl, ifSo (decide_eq_true rfl) ⟨_, rfl, _, rfl, d, d, ha1.dp _ _, hb1.dp _ _, hg.shaped (by omega), hg.shaped (by omega), ?_⟩⟩
    rw [leaf_eqv hl]
    exact q _ s1
  cases d with
  | none => exact absurd rfl hl
  | bool _ => exact absurd rfl hl
  | int _ => exact absurd rfl hl
  | str _ => exact absurd rfl hl
  | dict _ => cases ha
  | list ds =>
    cases ha1 with
    | @lst a xs _ nF ea al =>
    cases hb1 with
    | @lst b ys _ nF' eb bl =>
    have l1 := al.length
    have l2 := bl.length
    obtain ⟨lw, m0, hk⟩ := hg.list_inv
    refine ifSo rfl ?_
    refine ⟨_, rfl, _, _, _, _, _, rfl, .ty _, .base (.lst ea), kit_ty (kit_tup (.list ds)), _, rfl, _, _, _, _, _, rfl, .ty _, .base (.lst eb), kit_ty (kit_tup (.list ds)), rfl, _, rfl, ifNo rfl ?_⟩
    refine ⟨_, rfl, _, _, _, _, _, rfl, .ty _, .base (.lst ea), kit_ty (kit_lst (.list ds)), _, rfl, _, _, _, _, _, rfl, .ty _, .base (.lst eb), kit_ty (kit_lst (.list ds)), rfl, _, rfl, ifNo rfl ?_⟩
    refine ⟨_, rfl, a, xs, rfl, .inl (SqL.of ea), _, rfl, b, ys, rfl, .inl (SqL.of eb), rfl, _, rfl, ifSo (decide_eq_true (by rw [l1, l2])) ?_⟩
    refine ⟨_, rfl, _, rfl, a, b, xs, ys, rfl, .inl ⟨SqL.of ea, SqL.of eb, fun D nD => ?_⟩⟩
    refine lcZ (piz_l (l1.trans l2.symm)) (j := 2) (k := 3) (List.replicate xs.length (V.bl true)) List.length_replicate (small1000 (by omega)) nD (fun H' s2 => ⟨SqL.of (s2 _ _ ea), SqL.of (s2 _ _ eb)⟩) (fun i x y z H' ex ey ez s2 Q' q' => ?_) (fun x y => rfl) (fun H' s2 eD => ?_)
    · obtain rfl := rep_at ez
      obtain ⟨dx, ed, ax⟩ := al.get ex
      obtain ⟨dy, ed', ay⟩ := bl.get ey
      rw [ed] at ed'
      cases ed'
      exact ⟨_, rfl, _, rfl, F, F', x, y, dx, w', m - 1, rfl, ax.same s2, ay.same s2, hk _ (List.mem_of_getElem? ed), by omega, by omega, hw, q'⟩
    · refine ⟨D, List.replicate xs.length true, rfl, SqL.of (by rw [eD, rep_map]), ?_⟩
      rw [rep_all]
      exact q _ (s1.trans s2)
  | tuple ds =>
    cases ha1 with
    | @tup a xs _ nF ea al =>
    cases hb1 with
    | @tup b ys _ nF' eb bl =>
    have l1 := al.length
    have l2 := bl.length
    obtain ⟨lw, m0, hk⟩ := hg.tuple_inv
    refine ifSo rfl ?_
    refine ⟨_, rfl, _, _, _, _, _, rfl, .ty _, .base (.tup ea), kit_ty (kit_tup (.tuple ds)), _, rfl, _, _, _, _, _, rfl, .ty _, .base (.tup eb), kit_ty (kit_tup (.tuple ds)), rfl, _, rfl, ifNo rfl ?_⟩
    refine ⟨_, rfl, _, _, _, _, _, rfl, .ty _, .base (.tup ea), kit_ty (kit_lst (.tuple ds)), _, rfl, _, _, _, _, _, rfl, .ty _, .base (.tup eb), kit_ty (kit_lst (.tuple ds)), rfl, _, rfl, ifNo rfl ?_⟩
    refine ⟨_, rfl, a, xs, rfl, .inr (SqT.of ea), _, rfl, b, ys, rfl, .inr (SqT.of eb), rfl, _, rfl, ifSo (decide_eq_true (by rw [l1, l2])) ?_⟩
    refine ⟨_, rfl, _, rfl, a, b, xs, ys, rfl, .inr ⟨SqT.of ea, SqT.of eb, fun D nD => ?_⟩⟩
    refine lcZ (piz_t (l1.trans l2.symm)) (j := 2) (k := 3) (List.replicate xs.length (V.bl true)) List.length_replicate (small1000 (by omega)) nD (fun H' s2 => ⟨SqT.of (s2 _ _ ea), SqT.of (s2 _ _ eb)⟩) (fun i x y z H' ex ey ez s2 Q' q' => ?_) (fun x y => rfl) (fun H' s2 eD => ?_)
    · obtain rfl := rep_at ez
      obtain ⟨dx, ed, ax⟩ := al.get ex
      obtain ⟨dy, ed', ay⟩ := bl.get ey
      rw [ed] at ed'
      cases ed'
      exact ⟨_, rfl, _, rfl, F, F', x, y, dx, w', m - 1, rfl, ax.same s2, ay.same s2, hk _ (List.mem_of_getElem? ed), by omega, by omega, hw, q'⟩
    · refine ⟨D, List.replicate xs.length true, rfl, SqL.of (by rw [eD, rep_map]), ?_⟩
      rw [rep_all]
      exact q _ (s1.trans s2)
theorem ok_same (T : Top K mg) : ∀ n : Nat, FnOk P w K mg base CX0 n T._law_same T._law_same_d ["_law_found", "_law_due"] (sp_same n)
  | 0 => same0
  | n + 1 => same1 T (ok_same T n)
end
end Sa

set_option Elab.async false
set_option linter.all false
set_option maxRecDepth 100000
set_option maxHeartbeats 4000000
namespace Sa
open PySem PySem.Spec PyProof.Rows L2
/-! ### expressions that change nothing that stands -/
def Ye (H0 : Hp) (σ : L2.St) (G : V → Hp → Prop) (t : TE) : Prop := ∀ H Q, Same H0 H → (∀ v H', Same H H' → G v H' → Q v H') → t σ H Q
def YeA (H0 : Hp) (σ : L2.St) (G : List V → Hp → Prop) (t : TA) : Prop := ∀ H Q, Same H0 H → (∀ vs H', Same H H' → G vs H' → Q vs H') → t σ H Q
def Mn {α : Type} (G : α → Hp → Prop) : Prop := ∀ v H H', Same H H' → G v H → G v H'
section
variable {K : PySem.W.Frag} {H0 : Hp} {σ : L2.St} {G : V → Hp → Prop} {Gs : List V → Hp → Prop} {t : TE} {ta tk : TA}
theorem ye_var {i : Nat} {v : V} (e : σ[i]? = some (some v)) (h : ∀ H, Same H0 H → G v H) : Ye H0 σ G (tVar i) := fun H _ s q => ⟨v, e, q v H (Same.refl _) (h H s)⟩
theorem yea_nil (h : ∀ H, Gs [] H) : YeA H0 σ Gs tNil := fun H _ _ q => q [] H (Same.refl _) (h H)
theorem yea_cons (m : Mn G) (h1 : Ye H0 σ G t) (h2 : YeA H0 σ Gs ta) : YeA H0 σ (fun vs H => ∃ v r, vs = v :: r ∧ G v H ∧ Gs r H) (tCons t ta) := fun H Q s q =>
  h1 H _ s fun v H1 s1 g1 => h2 H1 _ (s.trans s1) fun vs H2 s2 g2 => q _ H2 (s1.trans s2) ⟨v, vs, rfl, m _ _ _ s2 g1, g2⟩
theorem ye_lst (m : Mn Gs) (h : YeA H0 σ Gs ta) (hl : ∀ vs H, Gs vs H → vs.length ≤ 1000) : Ye H0 σ (fun v H => ∃ p vs, v = .ref p ∧ H p = some (.lst vs) ∧ Gs vs H) (tLst ta) := fun H Q s q =>
  h H _ s fun vs H1 s1 g1 => ⟨Nat.le_of_lt (small1000 (hl _ _ g1)), fun p np => q _ _ (s1.trans (same_upd np)) ⟨p, vs, rfl, upd_same, m _ _ _ (same_upd np) g1⟩⟩
theorem ye_tup (m : Mn Gs) (h : YeA H0 σ Gs ta) (hl : ∀ vs H, Gs vs H → vs.length ≤ 1000) : Ye H0 σ (fun v H => ∃ p vs, v = .ref p ∧ H p = some (.tup vs) ∧ Gs vs H) (tTup ta) := fun H Q s q =>
  h H _ s fun vs H1 s1 g1 => ⟨Nat.le_of_lt (small1000 (hl _ _ g1)), fun p np => q _ _ (s1.trans (same_upd np)) ⟨p, vs, rfl, upd_same, m _ _ _ (same_upd np) g1⟩⟩
theorem Ye.imp {G1 : V → Hp → Prop} (h : Ye H0 σ G t) (i : ∀ v H, G v H → G1 v H) : Ye H0 σ G1 t := fun H Q s q => h H Q s fun v H' x g => q v H' x (i _ _ g)
theorem YeA.imp {G1 : List V → Hp → Prop} (h : YeA H0 σ Gs ta) (i : ∀ v H, Gs v H → G1 v H) : YeA H0 σ G1 ta := fun H Q s q => h H Q s fun v H' x g => q v H' x (i _ _ g)
/-- v: an error of the class C, its fields fs -/
def Err (C : Addr) (fs : List (Str × V)) (v : V) (H : Hp) : Prop := ∃ e dx, v = .ref e ∧ H e = some (exo e C (some dx)) ∧ H dx = some (exd dx fs)
/-- v: an error of the class C -/
def Er (C : Addr) (v : V) (H : Hp) : Prop := ∃ e d, v = .ref e ∧ H e = some (exo e C d) ∧ ∀ dx, d = some dx → ∃ fs, H dx = some (exd dx fs)
theorem mn_err {C : Addr} {fs : List (Str × V)} : Mn (Err C fs) := fun v H H' s ⟨e, dx, h1, h2, h3⟩ => ⟨e, dx, h1, s _ _ h2, s _ _ h3⟩
theorem mn_er {C : Addr} : Mn (Er C) := fun v H H' s ⟨e, d, h1, h2, h3⟩ => ⟨e, d, h1, s _ _ h2, fun dx z => by
  obtain ⟨fs, x⟩ := h3 dx z
  exact ⟨fs, s _ _ x⟩⟩
theorem Err.er {C : Addr} {fs : List (Str × V)} {v : V} {H : Hp} (h : Err C fs v H) : Er C v H := by
  obtain ⟨e, dx, h1, h2, h3⟩ := h
  refine ⟨e, some dx, h1, h2, fun y z => ?_⟩
  cases z
  exact ⟨fs, h3⟩
theorem same_3 {H : Hp} {a dx : Addr} {o1 o2 o3 : HO} (na : H a = none) (nd : H dx = none) : Same H (L2.upd (L2.upd (L2.upd H a o1) dx o2) a o3) := fun b o e => by
  have h1 : b ≠ a := ne_of_none e na
  have h2 : b ≠ dx := ne_of_none e nd
  rw [upd_ne h1, upd_ne h2, upd_ne h1]
  exact e
theorem ye_mk1 {C : Addr} {f : Str} {n m : Nat} {x : V} {vs zs : List V} {gV : List V → List V → List V} (ha : ∀ H Q, Q vs H → ta σ H Q) (hk : ∀ H Q, Q zs H → tk σ H Q) (l1 : vs.length = n) (l2 : zs.length = m) (e : ∀ a, gV (.ref a :: vs) zs = [.ref a, x]) :
    Ye H0 σ (Err C [(f, x)]) (tMkE C n m (spI1 C f) gV ta tk) := fun H Q s q => by
  refine ha H _ (hk H _ ⟨l1, l2, fun a na => ?_⟩)
  rw [e]
  refine ⟨a, x, rfl, upd_same, fun dx nd ne => ⟨rfl, ?_⟩⟩
  rw [upd_ne ne] at nd
  exact q _ _ (same_3 na nd) ⟨a, dx, rfl, upd_same, by rw [upd_ne ne, upd_same]⟩
theorem ye_mk2 {C : Addr} {f g : Str} {n m : Nat} {x y : V} {vs zs : List V} {gV : List V → List V → List V} (ha : ∀ H Q, Q vs H → ta σ H Q) (hk : ∀ H Q, Q zs H → tk σ H Q) (l1 : vs.length = n) (l2 : zs.length = m) (e : ∀ a, gV (.ref a :: vs) zs = [.ref a, x, y]) :
    Ye H0 σ (Err C [(g, y), (f, x)]) (tMkE C n m (spI2 C f g) gV ta tk) := fun H Q s q => by
  refine ha H _ (hk H _ ⟨l1, l2, fun a na => ?_⟩)
  rw [e]
  refine ⟨a, x, y, rfl, upd_same, fun dx nd ne => ⟨rfl, ?_⟩⟩
  rw [upd_ne ne] at nd
  refine q _ _ (fun b o z => ?_) ⟨a, dx, rfl, by rw [upd_ne ne.symm, upd_same], upd_same⟩
  have h2 : b ≠ dx := ne_of_none z nd
  rw [upd_ne h2]
  exact same_3 na nd b o z
theorem ye_mk0 {C : Addr} : Ye H0 σ (Er C) (tMk0 C) := fun H Q s q a na => q _ _ (same_upd na) ⟨a, none, rfl, upd_same, fun dx z => by cases z⟩
theorem ye_exf {C : Addr} {f : Str} {fs : List (Str × V)} {x : V} (T : XfC K C) (hno : PySem.W.findIn K (.ref C) f = some none) (h : Ye H0 σ (Err C fs) t) (l : fs.lookup f = some x) : Ye H0 σ (fun v _ => v = x) (tExf K f t) := fun H Q s q =>
  h H _ s fun v H1 s1 ⟨e, dx, e1, e2, e3⟩ => ⟨e, C, dx, fs, x, e1, T, hno, e2, e3, l, q x H1 s1 rfl⟩
/-- (error, [its fields], [due]) -/
def Row (C : Addr) (xs : List V) (t : V) (H : Hp) : Prop := ∃ p e k u, t = .ref p ∧ H p = some (.tup [e, .ref k, .ref u]) ∧ Er C e H ∧ H k = some (.lst xs) ∧ H u = some (.lst xs)
theorem mn_row {C : Addr} {xs : List V} : Mn (Row C xs) := fun v H H' s ⟨p, e, k, u, h1, h2, h3, h4, h5⟩ => ⟨p, e, k, u, h1, s _ _ h2, mn_er _ _ _ s h3, s _ _ h4, s _ _ h5⟩
theorem ye_row {C : Addr} {xs : List V} {tb : TA} (h1 : Ye H0 σ (Er C) t) (h2 : YeA H0 σ (fun vs _ => vs = xs) ta) (h3 : YeA H0 σ (fun vs _ => vs = xs) tb) (hl : xs.length ≤ 1000) : Ye H0 σ (Row C xs) (tTup (tCons t (tCons (tLst ta) (tCons (tLst tb) tNil)))) := fun H Q s q => by
  refine h1 H _ s fun e H1 s1 g1 => h2 H1 _ (s.trans s1) fun vs H2 s2 e2 => ⟨by rw [e2]; exact Nat.le_of_lt (small1000 hl), fun k nk => ?_⟩
  have s3 := same_upd (o := .lst vs) nk
  refine h3 _ _ ((s.trans s1).trans (s2.trans s3)) fun us H4 s4 e4 => ⟨by rw [e4]; exact Nat.le_of_lt (small1000 hl), fun u nu => ?_⟩
  have s5 := same_upd (o := .lst us) nu
  refine ⟨(by show 3 ≤ sizeLine; decide), fun p np => ?_⟩
  have s6 := same_upd (o := .tup [e, .ref k, .ref u]) np
  refine q _ _ (s1.trans (s2.trans (s3.trans (s4.trans (s5.trans s6))))) ⟨p, e, k, u, rfl, upd_same, mn_er _ _ _ (s2.trans (s3.trans (s4.trans (s5.trans s6)))) g1, ?_, ?_⟩
  · rw [← e2]
    exact s6 _ _ (s5 _ _ (s4 _ _ upd_same))
  · rw [← e4]
    exact s6 _ _ upd_same
/-- rows of them -/
inductive Rows (H : Hp) : List V → List (Addr × List V) → Prop
  | nil : Rows H [] []
  | cons {t : V} {ts : List V} {C : Addr} {xs : List V} {l : List (Addr × List V)} : Row C xs t H → Rows H ts l → Rows H (t :: ts) ((C, xs) :: l)
theorem Rows.same {H H' : Hp} (s : Same H H') : ∀ {ts : List V} {l : List (Addr × List V)}, Rows H ts l → Rows H' ts l
  | _, _, .nil => .nil
  | _, _, .cons a b => .cons (mn_row _ _ _ s a) (b.same s)
theorem Rows.append {H : Hp} : ∀ {ts us : List V} {l m : List (Addr × List V)}, Rows H ts l → Rows H us m → Rows H (ts ++ us) (l ++ m)
  | _, _, _, _, .nil, b => b
  | _, _, _, _, .cons a r, b => .cons a (r.append b)
theorem Rows.length {H : Hp} : ∀ {ts : List V} {l : List (Addr × List V)}, Rows H ts l → ts.length = l.length
  | _, _, .nil => rfl
  | _, _, .cons _ b => congrArg (· + 1) b.length
theorem Rows.get {H : Hp} : ∀ {ts : List V} {l : List (Addr × List V)} {i : Nat} {t : V}, Rows H ts l → ts[i]? = some t → ∃ C xs, l[i]? = some (C, xs) ∧ Row C xs t H
  | _, _, _, _, .nil, e => by simp at e
  | _, _, 0, _, .cons a _, e => ⟨_, _, rfl, by
    have z := Option.some.inj e
    exact z ▸ a⟩
  | _, _, i + 1, _, .cons _ b, e => b.get (i := i) e
def YeR (H0 : Hp) (σ : L2.St) (l : List (Addr × List V)) (t : TA) : Prop := YeA H0 σ (fun vs H => Rows H vs l) t
theorem yer_nil : YeR H0 σ [] tNil := yea_nil fun _ => .nil
theorem yer_cons {C : Addr} {xs : List V} {l : List (Addr × List V)} (h1 : Ye H0 σ (Row C xs) t) (h2 : YeR H0 σ l ta) : YeR H0 σ ((C, xs) :: l) (tCons t ta) := (yea_cons mn_row h1 h2).imp fun vs H ⟨v, r, e, g1, g2⟩ => e ▸ .cons g1 g2
/-- the list of them at v -/
def LRows (l : List (Addr × List V)) (v : V) (H : Hp) : Prop := ∃ p vs, v = .ref p ∧ H p = some (.lst vs) ∧ Rows H vs l
theorem mn_lrows {l : List (Addr × List V)} : Mn (LRows l) := fun v H H' s ⟨p, vs, h1, h2, h3⟩ => ⟨p, vs, h1, s _ _ h2, h3.same s⟩
theorem ye_lrows {l : List (Addr × List V)} (h : YeR H0 σ l ta) (hl : l.length ≤ 1000) : Ye H0 σ (LRows l) (tLst ta) := ye_lst (fun v H H' s g => g.same s) h fun vs H g => by rw [g.length]; exact hl
theorem ye_cat {l m : List (Addr × List V)} {i : Nat} {v : V} (e : σ[i]? = some (some v)) (h0 : LRows l v H0) (h : YeR H0 σ m ta) (hl : l.length + m.length ≤ 1000) : Ye H0 σ (LRows (l ++ m)) (tOp rCat (tVar i) (tLst ta)) := fun H Q s q => by
  refine ⟨v, e, ye_lrows h (by omega) H _ s fun u H1 s1 g1 => ?_⟩
  obtain ⟨p, vs, rfl, e1, r1⟩ := mn_lrows _ _ _ (s.trans s1) h0
  obtain ⟨p2, us, rfl, e2, r2⟩ := g1
  refine ⟨p, p2, vs, us, rfl, rfl, e1, e2, ?_, fun p3 np => ?_⟩
  · rw [r1.length, r2.length]
    exact Nat.le_of_lt (small1000 hl)
  · have s3 := same_upd (o := .lst (vs ++ us)) np
    exact q _ _ (s1.trans s3) ⟨p3, _, rfl, upd_same, (r1.same s3).append (r2.same s3)⟩
end
end Sa

set_option Elab.async false
set_option linter.all false
set_option maxRecDepth 100000
set_option maxHeartbeats 4000000
namespace Sa
open PySem PySem.Spec PyProof.Rows L2
section
variable {P : Program} {w : World} {K : PySem.W.Frag} {mg : Str → Option Value} {base : Heap}
/-- the own __init__s keep what they say -/
structure Ini (P : Program) (w : World) (base : Heap) {K : PySem.W.Frag} {mg : Str → Option Value} (T : Top K mg) : Prop where
  NoBook : FnOk P w K mg base CX0 1 T.NoBook_i T.NoBook_d ["self", "row", "why"] (spI2 T.NoBook "row" "why")
  NoProgram : FnOk P w K mg base CX0 1 T.NoProgram_i T.NoProgram_d ["self", "row", "why"] (spI2 T.NoProgram "row" "why")
  NoText : FnOk P w K mg base CX0 1 T.NoText_i T.NoText_d ["self", "at"] (spI1 T.NoText "at")
  NoTree : FnOk P w K mg base CX0 1 T.NoTree_i T.NoTree_d ["self", "path"] (spI1 T.NoTree "path")
  NoKind : FnOk P w K mg base CX0 1 T.NoKind_i T.NoKind_d ["self", "path"] (spI1 T.NoKind "path")
  NoPlace : FnOk P w K mg base CX0 1 T.NoPlace_i T.NoPlace_d ["self", "path"] (spI1 T.NoPlace "path")
  TooMany : FnOk P w K mg base CX0 1 T.TooMany_i T.TooMany_d ["self", "most"] (spI1 T.TooMany "most")
theorem mn_cons {G : V → Hp → Prop} {Gs : List V → Hp → Prop} (a : Mn G) (b : Mn Gs) : Mn (fun vs H => ∃ v r, vs = v :: r ∧ G v H ∧ Gs r H) := fun _ _ _ s ⟨v, r, e, x, y⟩ => ⟨v, r, e, a _ _ _ s x, b _ _ _ s y⟩
theorem mn_nil : Mn (fun (vs : List V) _ => vs = []) := fun _ _ _ _ e => e
theorem yea_is {H0 : Hp} {σ : L2.St} {x : V} {xs : List V} {t : TE} {ta : TA} (h1 : Ye H0 σ (fun v _ => v = x) t) (h2 : YeA H0 σ (fun vs _ => vs = xs) ta) : YeA H0 σ (fun vs _ => vs = x :: xs) (tCons t ta) :=
  (yea_cons (fun _ _ _ _ e => e) h1 h2).imp fun vs H ⟨v, r, e, e1, e2⟩ => by rw [e, e1, e2]
def madeL (T : Top K mg) (a b : V) : List (Addr × List V) := [(T.NoBook, [a, b]), (T.NoProgram, [a, b]), (T.NoText, [a])] ++ [(T.NoTree, [a]), (T.NoKind, [a]), (T.NoPlace, [b])] ++ [(T.TooMany, [a]), (T.AtEnd, []), (T.NoLine, []), (T.NoRow, [])] ++ [(T.NoRun, []), (T.NoChange, [])]
def sp_made (T : Top K mg) : Sp := fun vs H Q _ => ∃ a b, vs = [a, b] ∧ ∀ v H', Same H H' → LRows (madeL T a b) v H' → Q v H'
theorem ok__law_made (T : Top K mg) (TI : Ini P w base T) : FnOk P w K mg base CX0 3 T._law_made T._law_made_d ["_law_a", "_law_b"] (sp_made T) := by
  refine T._law_made_f.ok sc__law_made (fun vs H Q E h => ?_) (fun cdv A outer s H vs Q E hr h => ?_)
  · obtain ⟨a, b, rfl, _⟩ := h
    rfl
  obtain ⟨a, b, rfl, q⟩ := h
  -- slots: 0 _law_a, 1 _law_b, 2 _law_one, 3 _law_two, 4 _law_three, 5 _law_four, 6 _law_five, 7 _law_six, 8 _law_seven, 9 _law_found
  refine ⟨_, (pss_mid (ps_asg (pe_tup (pa_cons (pe_mkE (T.cls T.NoBook (by simp)).oex T.NoBook_j T.NoBook_t TI.NoBook hr (by rfl) T.NoBook_g T.NoBook_b (by decide) (pa_cons (pv 0) (pa_cons (pv 1) pa_nil))) (pa_cons (pe_mkEK (T.cls T.NoProgram (by simp)).oex T.NoProgram_j T.NoProgram_t TI.NoProgram hr (by rfl) T.NoProgram_g T.NoProgram_b (by decide) (pa_cons (pv 0) pa_nil) (pk_cons (pv 1) pk_nil)) (pa_cons (pe_mkE (T.cls T.NoText (by simp)).oex T.NoText_j T.NoText_t TI.NoText hr (by rfl) T.NoText_g T.NoText_b (by decide) (pa_cons (pv 0) pa_nil)) (pa_cons (pe_mkEK0 (T.cls T.NoTree (by simp)).oex T.NoTree_j T.NoTree_t TI.NoTree hr (by rfl) T.NoTree_g T.NoTree_b (pk_cons (pv 0) pk_nil)) pa_nil))))) (pg_tup rfl (pgs_cons (pg_name (i := 2) sc__law_made.nd rfl (.inl rfl)) (pgs_cons (pg_name (i := 3) sc__law_made.nd rfl (.inl rfl)) (pgs_cons (pg_name (i := 4) sc__law_made.nd rfl (.inl rfl)) (pgs_cons (pg_name (i := 5) sc__law_made.nd rfl (.inl rfl)) pgs_nil))))))
      (pss_mid (ps_par3 (i := 6) (j := 7) (l := 8) (by rfl) sc__law_made.nd rfl rfl rfl (by decide) (by decide) (by decide) rfl rfl rfl (pa_cons (pe_mkE (T.cls T.NoKind (by simp)).oex T.NoKind_j T.NoKind_t TI.NoKind hr (by rfl) T.NoKind_g T.NoKind_b (by decide) (pa_cons (pv 0) pa_nil)) (pa_cons (pe_mkEK0 (T.cls T.NoPlace (by simp)).oex T.NoPlace_j T.NoPlace_t TI.NoPlace hr (by rfl) T.NoPlace_g T.NoPlace_b (pk_cons (pv 1) pk_nil)) (pa_cons (pe_mkEK0 (T.cls T.TooMany (by simp)).oex T.TooMany_j T.TooMany_t TI.TooMany hr (by rfl) T.TooMany_g T.TooMany_b (pk_cons (pv 0) pk_nil)) pa_nil))) (by rfl))
      (pss_cons (ps_set (i := 9) sc__law_made.nd rfl (.inl rfl) (pe_lst (pa_cons (pe_tup (pa_cons (pv 2) (pa_cons (pe_lst (pa_cons (pe_exf (pv 2)) (pa_cons (pe_exf (pv 2)) pa_nil))) (pa_cons (pe_lst (pa_cons (pv 0) (pa_cons (pv 1) pa_nil))) pa_nil)))) (pa_cons (pe_tup (pa_cons (pv 3) (pa_cons (pe_lst (pa_cons (pe_exf (pv 3)) (pa_cons (pe_exf (pv 3)) pa_nil))) (pa_cons (pe_lst (pa_cons (pv 0) (pa_cons (pv 1) pa_nil))) pa_nil)))) (pa_cons (pe_tup (pa_cons (pv 4) (pa_cons (pe_lst (pa_cons (pe_exf (pv 4)) pa_nil)) (pa_cons (pe_lst (pa_cons (pv 0) pa_nil)) pa_nil)))) pa_nil)))))
      (pss_cons (ps_set (i := 9) sc__law_made.nd rfl (.inl rfl) (pe_op op_cat (pv 9) (pe_lst (pa_cons (pe_tup (pa_cons (pv 5) (pa_cons (pe_lst (pa_cons (pe_exf (pv 5)) pa_nil)) (pa_cons (pe_lst (pa_cons (pv 0) pa_nil)) pa_nil)))) (pa_cons (pe_tup (pa_cons (pv 6) (pa_cons (pe_lst (pa_cons (pe_exf (pv 6)) pa_nil)) (pa_cons (pe_lst (pa_cons (pv 0) pa_nil)) pa_nil)))) (pa_cons (pe_tup (pa_cons (pv 7) (pa_cons (pe_lst (pa_cons (pe_exf (pv 7)) pa_nil)) (pa_cons (pe_lst (pa_cons (pv 1) pa_nil)) pa_nil)))) pa_nil))))))
      (pss_cons (ps_set (i := 9) sc__law_made.nd rfl (.inl rfl) (pe_op op_cat (pv 9) (pe_lst (pa_cons (pe_tup (pa_cons (pv 8) (pa_cons (pe_lst (pa_cons (pe_exf (pv 8)) pa_nil)) (pa_cons (pe_lst (pa_cons (pv 0) pa_nil)) pa_nil)))) (pa_cons (pe_tup (pa_cons (pe_mk0 (T.cls T.AtEnd (by simp)).oex T.AtEnd_j (by rfl) T.AtEnd_g) (pa_cons (pe_lst pa_nil) (pa_cons (pe_lst pa_nil) pa_nil)))) (pa_cons (pe_tup (pa_cons (pe_mk0 (T.cls T.NoLine (by simp)).oex T.NoLine_j (by rfl) T.NoLine_g) (pa_cons (pe_lst pa_nil) (pa_cons (pe_lst pa_nil) pa_nil)))) (pa_cons (pe_tup (pa_cons (pe_mk0 (T.cls T.NoRow (by simp)).oex T.NoRow_j (by rfl) T.NoRow_g) (pa_cons (pe_lst pa_nil) (pa_cons (pe_lst pa_nil) pa_nil)))) pa_nil)))))))
      (pss_one (ps_ret (pe_op op_cat (pv 9) (pe_lst (pa_cons (pe_tup (pa_cons (pe_mk0 (T.cls T.NoRun (by simp)).oex T.NoRun_j (by rfl) T.NoRun_g) (pa_cons (pe_lst pa_nil) (pa_cons (pe_lst pa_nil) pa_nil)))) (pa_cons (pe_tup (pa_cons (pe_mk0 (T.cls T.NoChange (by simp)).oex T.NoChange_j (by rfl) T.NoChange_g) (pa_cons (pe_lst pa_nil) (pa_cons (pe_lst pa_nil) pa_nil)))) pa_nil))))))))))), ?_⟩
  refine ⟨fun σ H' => ∃ v1 v2 v3 v4, σ = [some a, some b, some v1, some v2, some v3, some v4, none, none, none, none] ∧ Same H H' ∧ Err T.NoBook [("why", b), ("row", a)] v1 H' ∧ Err T.NoProgram [("why", b), ("row", a)] v2 H' ∧ Err T.NoText [("at", a)] v3 H' ∧ Err T.NoTree [("path", a)] v4 H', ?_, ?_⟩
  · refine ye_tup (H0 := H) (σ := [some a, some b, none, none, none, none, none, none, none, none]) (mn_cons mn_err (mn_cons mn_err (mn_cons mn_err (mn_cons mn_err mn_nil)))) (yea_cons mn_err (ye_mk2 (C := T.NoBook) (f := "row") (g := "why") (x := a) (y := b) (vs := [a, b]) (zs := []) (by exact fun H Q q => ⟨_, rfl, _, rfl, q⟩) (by exact fun H Q q => q) rfl rfl (by exact fun a => rfl)) (yea_cons mn_err (ye_mk2 (C := T.NoProgram) (f := "row") (g := "why") (x := a) (y := b) (vs := [a]) (zs := [b]) (by exact fun H Q q => ⟨_, rfl, q⟩) (by exact fun H Q q => ⟨_, rfl, q⟩) rfl rfl (by exact fun a => rfl)) (yea_cons mn_err (ye_mk1 (C := T.NoText) (f := "at") (x := a) (vs := [a]) (zs := []) (by exact fun H Q q => ⟨_, rfl, q⟩) (by exact fun H Q q => q) rfl rfl (by exact fun a => rfl)) (yea_cons mn_err (ye_mk1 (C := T.NoTree) (f := "path") (x := a) (vs := []) (zs := [a]) (by exact fun H Q q => q) (by exact fun H Q q => ⟨_, rfl, q⟩) rfl rfl (by exact fun a => rfl)) (yea_nil (Gs := fun vs _ => vs = []) fun _ => rfl))))) (fun vs H h => ?_) H _ (Same.refl _) fun v H1 s1 g => ?_
    · obtain ⟨_, _, rfl, _, _, _, rfl, _, _, _, rfl, _, _, _, rfl, _, rfl⟩ := h
      simp
    · obtain ⟨p, _, rfl, ep, v1, _, rfl, g1, v2, _, rfl, g2, v3, _, rfl, g3, v4, _, rfl, g4, rfl⟩ := g
      exact ⟨p, _, rfl, SqT.of ep, rfl, v1, _, rfl, v2, _, rfl, v3, _, rfl, v4, _, rfl, rfl, v1, v2, v3, v4, rfl, s1, g1, g2, g3, g4⟩
  rintro _ H1 ⟨v1, v2, v3, v4, rfl, s1, e1, e2, e3, e4⟩
  refine ⟨fun σ H' => ∃ v5 v6 v7, σ = [some a, some b, some v1, some v2, some v3, some v4, some v5, some v6, some v7, none] ∧ Same H1 H' ∧ Err T.NoKind [("path", a)] v5 H' ∧ Err T.NoPlace [("path", b)] v6 H' ∧ Err T.TooMany [("most", a)] v7 H', ?_, ?_⟩
  · refine (yea_cons (H0 := H1) (σ := [some a, some b, some v1, some v2, some v3, some v4, none, none, none, none]) mn_err (ye_mk1 (C := T.NoKind) (f := "path") (x := a) (vs := [a]) (zs := []) (by exact fun H Q q => ⟨_, rfl, q⟩) (by exact fun H Q q => q) rfl rfl (by exact fun a => rfl)) (yea_cons mn_err (ye_mk1 (C := T.NoPlace) (f := "path") (x := b) (vs := []) (zs := [b]) (by exact fun H Q q => q) (by exact fun H Q q => ⟨_, rfl, q⟩) rfl rfl (by exact fun a => rfl)) (yea_cons mn_err (ye_mk1 (C := T.TooMany) (f := "most") (x := a) (vs := []) (zs := [a]) (by exact fun H Q q => q) (by exact fun H Q q => ⟨_, rfl, q⟩) rfl rfl (by exact fun a => rfl)) (yea_nil (Gs := fun vs _ => vs = []) fun _ => rfl)))) H1 _ (Same.refl _) fun v H2 s2 g => ?_
    obtain ⟨v5, _, rfl, g5, v6, _, rfl, g6, v7, _, rfl, g7, rfl⟩ := g
    exact ⟨v5, v6, v7, rfl, v5, v6, v7, rfl, s2, g5, g6, g7⟩
  rintro _ H2 ⟨v5, v6, v7, rfl, s2, e5, e6, e7⟩
  replace e1 := mn_err _ _ _ s2 e1
  replace e2 := mn_err _ _ _ s2 e2
  replace e3 := mn_err _ _ _ s2 e3
  replace e4 := mn_err _ _ _ s2 e4
  refine go_asg (ye_lrows (H0 := H2) (yer_cons (ye_row (ye_var rfl fun H s => (mn_err _ _ _ s e1).er) (yea_is (ye_exf (T.cls T.NoBook (by simp)).xf T.NoBook_row (ye_var rfl fun H s => mn_err _ _ _ s e1) rfl) (yea_is (ye_exf (T.cls T.NoBook (by simp)).xf T.NoBook_why (ye_var rfl fun H s => mn_err _ _ _ s e1) rfl) (yea_nil fun _ => rfl))) (yea_is (ye_var rfl fun _ _ => rfl) (yea_is (ye_var rfl fun _ _ => rfl) (yea_nil fun _ => rfl))) (by simp))
      (yer_cons (ye_row (ye_var rfl fun H s => (mn_err _ _ _ s e2).er) (yea_is (ye_exf (T.cls T.NoProgram (by simp)).xf T.NoProgram_row (ye_var rfl fun H s => mn_err _ _ _ s e2) rfl) (yea_is (ye_exf (T.cls T.NoProgram (by simp)).xf T.NoProgram_why (ye_var rfl fun H s => mn_err _ _ _ s e2) rfl) (yea_nil fun _ => rfl))) (yea_is (ye_var rfl fun _ _ => rfl) (yea_is (ye_var rfl fun _ _ => rfl) (yea_nil fun _ => rfl))) (by simp))
      (yer_cons (ye_row (ye_var rfl fun H s => (mn_err _ _ _ s e3).er) (yea_is (ye_exf (T.cls T.NoText (by simp)).xf T.NoText_at (ye_var rfl fun H s => mn_err _ _ _ s e3) rfl) (yea_nil fun _ => rfl)) (yea_is (ye_var rfl fun _ _ => rfl) (yea_nil fun _ => rfl)) (by simp))
      yer_nil))) (by simp) H2 _ (Same.refl _) fun f1 H3 s3 g3 => go_name ?_)
  refine go_asg (ye_cat (H0 := H3) (i := 9) rfl g3 (yer_cons (ye_row (ye_var rfl fun H s => (mn_err _ _ _ s (mn_err _ _ _ s3 e4)).er) (yea_is (ye_exf (T.cls T.NoTree (by simp)).xf T.NoTree_path (ye_var rfl fun H s => mn_err _ _ _ s (mn_err _ _ _ s3 e4)) rfl) (yea_nil fun _ => rfl)) (yea_is (ye_var rfl fun _ _ => rfl) (yea_nil fun _ => rfl)) (by simp))
      (yer_cons (ye_row (ye_var rfl fun H s => (mn_err _ _ _ s (mn_err _ _ _ s3 e5)).er) (yea_is (ye_exf (T.cls T.NoKind (by simp)).xf T.NoKind_path (ye_var rfl fun H s => mn_err _ _ _ s (mn_err _ _ _ s3 e5)) rfl) (yea_nil fun _ => rfl)) (yea_is (ye_var rfl fun _ _ => rfl) (yea_nil fun _ => rfl)) (by simp))
      (yer_cons (ye_row (ye_var rfl fun H s => (mn_err _ _ _ s (mn_err _ _ _ s3 e6)).er) (yea_is (ye_exf (T.cls T.NoPlace (by simp)).xf T.NoPlace_path (ye_var rfl fun H s => mn_err _ _ _ s (mn_err _ _ _ s3 e6)) rfl) (yea_nil fun _ => rfl)) (yea_is (ye_var rfl fun _ _ => rfl) (yea_nil fun _ => rfl)) (by simp))
      yer_nil))) (by simp) H3 _ (Same.refl _) fun f2 H4 s4 g4 => go_name ?_)
  refine go_asg (ye_cat (H0 := H4) (i := 9) rfl g4 (yer_cons (ye_row (ye_var rfl fun H s => (mn_err _ _ _ s (mn_err _ _ _ (s3.trans s4) e7)).er) (yea_is (ye_exf (T.cls T.TooMany (by simp)).xf T.TooMany_most (ye_var rfl fun H s => mn_err _ _ _ s (mn_err _ _ _ (s3.trans s4) e7)) rfl) (yea_nil fun _ => rfl)) (yea_is (ye_var rfl fun _ _ => rfl) (yea_nil fun _ => rfl)) (by simp))
      (yer_cons (ye_row ye_mk0 (yea_nil fun _ => rfl) (yea_nil fun _ => rfl) (by simp))
      (yer_cons (ye_row ye_mk0 (yea_nil fun _ => rfl) (yea_nil fun _ => rfl) (by simp))
      (yer_cons (ye_row ye_mk0 (yea_nil fun _ => rfl) (yea_nil fun _ => rfl) (by simp))
      yer_nil)))) (by simp) H4 _ (Same.refl _) fun f3 H5 s5 g5 => go_name ?_)
  refine go_ret (ye_cat (H0 := H5) (i := 9) rfl g5 (yer_cons (ye_row ye_mk0 (yea_nil fun _ => rfl) (yea_nil fun _ => rfl) (by simp))
      (yer_cons (ye_row ye_mk0 (yea_nil fun _ => rfl) (yea_nil fun _ => rfl) (by simp))
      yer_nil)) (by simp) H5 _ (Same.refl _) fun f4 H6 s6 g6 => ?_)
  exact q f4 H6 (s1.trans (s2.trans (s3.trans (s4.trans (s5.trans s6))))) g6
end
end Sa

set_option Elab.async false
set_option linter.all false
set_option maxRecDepth 100000
set_option maxHeartbeats 4000000
namespace Sa
open PySem PySem.Spec PyProof.Rows L2
section
variable {P : Program} {w : World} {K : PySem.W.Frag} {mg : Str → Option Value} {base : Heap}
abbrev csOf (T : Top K mg) : List Addr := [T.NoBook, T.NoProgram, T.NoText, T.NoTree, T.NoKind, T.NoPlace, T.TooMany, T.AtEnd, T.NoLine, T.NoRow, T.NoRun, T.NoChange]
theorem rd_isX (T : Top K mg) {C D : Addr} {v : V} {H : Hp} {Q : VK} (e : Er C v H) (hC : C ∈ csOf T) (hD : D ∈ csOf T) (q : Q (.bl (decide (C = D))) H) : rIsX K [v, .ref D] H Q := by
  obtain ⟨a, d, rfl, ea, ed⟩ := e
  exact ⟨a, C, d, .ref D, .ref D, _, rfl, ea, ed, (T.cls C hC).exc, fun u r => r, T.sep C hC D hD, q⟩
theorem rd_isS (T : Top K mg) {C : Addr} {v : V} {H : Hp} {Q : VK} (e : Er C v H) (hC : C ∈ csOf T) (q : Q (.bl true) H) : rIsX K [v, .ref T.SaidError] H Q := by
  obtain ⟨a, d, rfl, ea, ed⟩ := e
  exact ⟨a, C, d, .ref T.SaidError, .ref T.SaidError, _, rfl, ea, ed, (T.cls C hC).exc, fun u r => r, (T.cls C hC).toS, q⟩
theorem rd_isV (T : Top K mg) {C : Addr} {v : V} {H : Hp} {Q : VK} (e : Er C v H) (hC : C ∈ csOf T) (q : Q (.bl true) H) : rIsX K [v, .ty "ValueError"] H Q := by
  obtain ⟨a, d, rfl, ea, ed⟩ := e
  exact ⟨a, C, d, .ty "ValueError", .type "ValueError", _, rfl, ea, ed, (T.cls C hC).exc, fun u r => r, (T.cls C hC).toV, q⟩
theorem go_cons {ta : TE} {tr : TA} {σ : L2.St} {H : Hp} {Q : List V → Hp → Prop} (h : ta σ H fun x H1 => tr σ H1 fun xs H2 => Q (x :: xs) H2) : tCons ta tr σ H Q := h
theorem go_lst {ta : TA} {σ : L2.St} {H : Hp} {Q : VK} (h : ta σ H fun xs H1 => xs.length ≤ sizeLine ∧ ∀ p, H1 p = none → Q (.ref p) (L2.upd H1 p (.lst xs))) : tLst ta σ H Q := h
theorem rd_tisX (T : Top K mg) {C D : Addr} {v : V} {H : Hp} {Q : VK} {σ : L2.St} {i : Nat} (ev : σ[i]? = some (some v)) (e : Er C v H) (hC : C ∈ csOf T) (hD : D ∈ csOf T) (q : Q (.bl (decide (C = D))) H) : tCB (rIsX K) (tCons (tVar i) (tCons (tC (.ref D)) tNil)) σ H Q := ⟨v, ev, rd_isX T e hC hD q⟩
theorem rd_tisS (T : Top K mg) {C : Addr} {v : V} {H : Hp} {Q : VK} {σ : L2.St} {i : Nat} (ev : σ[i]? = some (some v)) (e : Er C v H) (hC : C ∈ csOf T) (q : Q (.bl true) H) : tCB (rIsX K) (tCons (tVar i) (tCons (tC (.ref T.SaidError)) tNil)) σ H Q := ⟨v, ev, rd_isS T e hC q⟩
theorem rd_tisV (T : Top K mg) {C : Addr} {v : V} {H : Hp} {Q : VK} {σ : L2.St} {i : Nat} (ev : σ[i]? = some (some v)) (e : Er C v H) (hC : C ∈ csOf T) (q : Q (.bl true) H) : tCB (rIsX K) (tCons (tVar i) (tCons (tC (.ty "ValueError")) tNil)) σ H Q := ⟨v, ev, rd_isV T e hC q⟩
def sp_sorts (T : Top K mg) : Sp := fun vs H Q _ => ∃ C v, vs = [v] ∧ Er C v H ∧ C ∈ csOf T ∧ ∀ p H', Same H H' → H p = none → H' p = some (.lst ((csOf T).map fun D => .bl (decide (C = D)))) → Q (.ref p) H'
theorem ok__law_sorts (T : Top K mg) : FnOk P w K mg base CX0 1 T._law_sorts T._law_sorts_d ["_law_e"] (sp_sorts T) := by
  refine T._law_sorts_f.ok sc__law_sorts (fun vs H Q E h => ?_) (fun cdv A outer s H vs Q E hr h => ?_)
  · obtain ⟨C, v, rfl, _⟩ := h
    rfl
  obtain ⟨C, v, rfl, he, hC, q⟩ := h
  -- slots: 0 _law_e, 1 _law_found
  refine ⟨_, (pss_cons (ps_set (i := 1) sc__law_sorts.nd rfl (.inl rfl) (pe_lst (pa_cons (pe_callB call_isX (by rfl) T.isinstance_n (by decide +kernel) (pa_cons (pv 0) (pa_cons (pe_glob (v := .ref T.NoBook) (by rfl) T.NoBook_g rfl) pa_nil))) (pa_cons (pe_callB call_isX (by rfl) T.isinstance_n (by decide +kernel) (pa_cons (pv 0) (pa_cons (pe_glob (v := .ref T.NoProgram) (by rfl) T.NoProgram_g rfl) pa_nil))) (pa_cons (pe_callB call_isX (by rfl) T.isinstance_n (by decide +kernel) (pa_cons (pv 0) (pa_cons (pe_glob (v := .ref T.NoText) (by rfl) T.NoText_g rfl) pa_nil))) (pa_cons (pe_callB call_isX (by rfl) T.isinstance_n (by decide +kernel) (pa_cons (pv 0) (pa_cons (pe_glob (v := .ref T.NoTree) (by rfl) T.NoTree_g rfl) pa_nil))) pa_nil))))))
      (pss_cons (ps_set (i := 1) sc__law_sorts.nd rfl (.inl rfl) (pe_op op_cat (pv 1) (pe_lst (pa_cons (pe_callB call_isX (by rfl) T.isinstance_n (by decide +kernel) (pa_cons (pv 0) (pa_cons (pe_glob (v := .ref T.NoKind) (by rfl) T.NoKind_g rfl) pa_nil))) (pa_cons (pe_callB call_isX (by rfl) T.isinstance_n (by decide +kernel) (pa_cons (pv 0) (pa_cons (pe_glob (v := .ref T.NoPlace) (by rfl) T.NoPlace_g rfl) pa_nil))) (pa_cons (pe_callB call_isX (by rfl) T.isinstance_n (by decide +kernel) (pa_cons (pv 0) (pa_cons (pe_glob (v := .ref T.TooMany) (by rfl) T.TooMany_g rfl) pa_nil))) (pa_cons (pe_callB call_isX (by rfl) T.isinstance_n (by decide +kernel) (pa_cons (pv 0) (pa_cons (pe_glob (v := .ref T.AtEnd) (by rfl) T.AtEnd_g rfl) pa_nil))) pa_nil)))))))
      (pss_one (ps_ret (pe_op op_cat (pv 1) (pe_lst (pa_cons (pe_callB call_isX (by rfl) T.isinstance_n (by decide +kernel) (pa_cons (pv 0) (pa_cons (pe_glob (v := .ref T.NoLine) (by rfl) T.NoLine_g rfl) pa_nil))) (pa_cons (pe_callB call_isX (by rfl) T.isinstance_n (by decide +kernel) (pa_cons (pv 0) (pa_cons (pe_glob (v := .ref T.NoRow) (by rfl) T.NoRow_g rfl) pa_nil))) (pa_cons (pe_callB call_isX (by rfl) T.isinstance_n (by decide +kernel) (pa_cons (pv 0) (pa_cons (pe_glob (v := .ref T.NoRun) (by rfl) T.NoRun_g rfl) pa_nil))) (pa_cons (pe_callB call_isX (by rfl) T.isinstance_n (by decide +kernel) (pa_cons (pv 0) (pa_cons (pe_glob (v := .ref T.NoChange) (by rfl) T.NoChange_g rfl) pa_nil))) pa_nil)))))))))), ?_⟩
  refine go_asg (go_lst ?_)
  refine go_cons (rd_tisX T (D := T.NoBook) rfl he hC (by simp) ?_)
  refine go_cons (rd_tisX T (D := T.NoProgram) rfl he hC (by simp) ?_)
  refine go_cons (rd_tisX T (D := T.NoText) rfl he hC (by simp) ?_)
  refine go_cons (rd_tisX T (D := T.NoTree) rfl he hC (by simp) ?_)
  refine ⟨Nat.le_of_lt (small1000 (by simp)), fun p0 n0 => ?_⟩
  have s0 := same_upd (o := .lst [.bl (decide (C = T.NoBook)), .bl (decide (C = T.NoProgram)), .bl (decide (C = T.NoText)), .bl (decide (C = T.NoTree))]) n0
  have he1 := mn_er _ _ _ s0 he
  refine go_name ?_
  refine go_asg ?_
  refine ⟨_, rfl, go_lst ?_⟩
  refine go_cons (rd_tisX T (D := T.NoKind) rfl he1 hC (by simp) ?_)
  refine go_cons (rd_tisX T (D := T.NoPlace) rfl he1 hC (by simp) ?_)
  refine go_cons (rd_tisX T (D := T.TooMany) rfl he1 hC (by simp) ?_)
  refine go_cons (rd_tisX T (D := T.AtEnd) rfl he1 hC (by simp) ?_)
  refine ⟨Nat.le_of_lt (small1000 (by simp)), fun p1 n1 => ?_⟩
  have s1 := same_upd (o := .lst [.bl (decide (C = T.NoKind)), .bl (decide (C = T.NoPlace)), .bl (decide (C = T.TooMany)), .bl (decide (C = T.AtEnd))]) n1
  refine ⟨p0, p1, _, _, rfl, rfl, s1 _ _ upd_same, upd_same, Nat.le_of_lt (small1000 (by simp)), fun p3 n3 => go_name ?_⟩
  have s3 := same_upd (o := .lst ([.bl (decide (C = T.NoBook)), .bl (decide (C = T.NoProgram)), .bl (decide (C = T.NoText)), .bl (decide (C = T.NoTree))] ++ [.bl (decide (C = T.NoKind)), .bl (decide (C = T.NoPlace)), .bl (decide (C = T.TooMany)), .bl (decide (C = T.AtEnd))])) n3
  have s03 := s0.trans (s1.trans s3)
  have he2 := mn_er _ _ _ s03 he
  refine go_ret ?_
  refine ⟨_, rfl, go_lst ?_⟩
  refine go_cons (rd_tisX T (D := T.NoLine) rfl he2 hC (by simp) ?_)
  refine go_cons (rd_tisX T (D := T.NoRow) rfl he2 hC (by simp) ?_)
  refine go_cons (rd_tisX T (D := T.NoRun) rfl he2 hC (by simp) ?_)
  refine go_cons (rd_tisX T (D := T.NoChange) rfl he2 hC (by simp) ?_)
  refine ⟨Nat.le_of_lt (small1000 (by simp)), fun p2 n2 => ?_⟩
  have s2 := same_upd (o := .lst [.bl (decide (C = T.NoLine)), .bl (decide (C = T.NoRow)), .bl (decide (C = T.NoRun)), .bl (decide (C = T.NoChange))]) n2
  refine ⟨p3, p2, _, _, rfl, rfl, s2 _ _ upd_same, upd_same, Nat.le_of_lt (small1000 (by simp)), fun p4 n4 => ?_⟩
  exact q p4 _ (s03.trans (s2.trans (same_upd n4))) ((s03.trans s2).free n4) upd_same
end
end Sa

set_option Elab.async false
set_option linter.all false
set_option maxRecDepth 100000
set_option maxHeartbeats 4000000
namespace Sa
open PySem PySem.Spec PyProof.Rows L2
/-! ### several clauses «except x as n» -/
abbrev Cl := Value × (Addr → Value → Option Addr → TS)
/-- the ends of a clause's suite: the name is let go -/
def endsA (i : Nat) (D : Ends) : Ends := { nx := fun σ' H' => D.nx (σ'.set i none) H', rt := D.rt, bk := fun σ' H' => D.bk (σ'.set i none) H', ct := fun σ' H' => D.ct (σ'.set i none) H' }
def wManyA (K : PySem.W.Frag) (i : Nat) (D : Ends) : List Cl → WX
  | [] => fun _ _ _ _ => False
  | (c, ts) :: r => fun cls d σ H => ∃ b, PySem.W.exmOne K cls c = some b ∧ (b = true → ∀ a, H a = none → ts a cls d (endsA i D) (σ.set i (some (.ref a))) H) ∧ (b = false → wManyA K i D r cls d σ H)
inductive HdsA (X : Cx) (n : Str) : List ExceptHandler → List Cl → Prop
  | nil : HdsA X n [] []
  | cons {x : Str} {c : Value} {ts : Addr → Value → Option Addr → TS} {b₀ : Stmt} {suite : List Stmt} {np pos' : Pos} {hds : List ExceptHandler} {l : List Cl} (hc : Names X x c)
      (hsu : ∀ (a : Addr) (oe : Obj) (cls : Value) (d : Option Addr) (pn : List (Addr × Obj)), Zc cls d oe → (∃ vs, oe.data = .fields vs) → PSs (X.suite a ((a, oe) :: pn)) (b₀ :: suite) (ts a cls d)) (r : HdsA X n hds l) : HdsA X n (.ExceptHandler (some (.Name x np)) (some n) (b₀ :: suite) pos' :: hds) ((c, ts) :: l)
section
variable {X : Cx} {n : Str} {i : Nat} {body : List Stmt} {h₀ : ExceptHandler} {hds : List ExceptHandler} {l : List Cl} {pos : Pos} {tb : WX → TS}
theorem ps_try_manyA (hs : X.stack = X.env :: X.outer) (hf : X.env.frame = some X.env.locals) (hN : X.N.Nodup) (hi : X.N[i]? = some n) (hln : X.env.kindOf n = some .local)
    (hb : ∀ (W : WX) (pn : List (Addr × Obj)) (xe : Value → Shared → Prop), Takes (X.tr pn xe) W → PassesOwn (model X.prog X.w) X.A X.env xe → PSs (X.tr pn xe) body (tb W)) (hh : HdsA X n (h₀ :: hds) l) :
    PS X (.Try body (h₀ :: hds) [] [] pos) (fun D σ H => tb (wManyA X.K i D l) D σ H) := by
  refine ⟨fun pins s σ H D I h => ?_⟩
  have okI := I.ok
  have frA : X.A.frames = some (X.env :: X.outer) := by rw [okI.frames, hs]
  have locN : Loc X.env.scope n := .inl hln
  refine wpAny_Try_except ?_
  refine wpAny_mono ((hb (wManyA X.K i D l) (X.pn ++ pins) (fun er sA => wpAny (model X.prog X.w) X.A (noteFrame er X.env) (fun _ sB => wpAny (model X.prog X.w) X.A (setFlight er none) (fun _ sC =>
    wpAny (model X.prog X.w) X.A (handleBy er X.env (h₀ :: hds)) (SP X pins D) X.xe sC) X.xe sB) X.xe sA) (fun u s' xx => ?_) PassesOwn.looking).run [] s σ H D (I.toTry _) h) (fun f s1 hsp => ?_) (fun er s1 he => he)
  · obtain ⟨a, B, sI, pins', σ', H', cls, d, rfl, JT, nb, up, sky, na, os, ag, wsh⟩ := xx
    have J : Inv X pins σ' H' sI := JT.ofTry okI
    have skyE : Sky B (X.env :: X.outer) a (Zc cls d) X.env.locals s'.heap := by rw [← hs]; exact sky
    show wpAny (model X.prog X.w) X.A (noteFrame (.ref a) X.env) _ _ _
    refine Sky.land Zc.steady frA hf skyE fun h3 fl3 up3 => ?_
    have J3 : Inv X pins σ' H' { s' with heap := h3 } := J.landed nb fl3.1 (up.trans up3) os ag
    obtain ⟨oe3, vs3, he3, hz3, hd3⟩ := fl3.there
    have frN : ∀ {hp : Heap} {o : Obj} {vs : Array Value}, hp.FunFrames B (X.env :: X.outer) → hp.get? a = some o → o.data = .fields vs → a ∉ frs (X.env :: X.outer) := fun {hp o vs} ff e dd hm => by
      obtain ⟨_, ob, eb, hnf⟩ := ff.mem hm
      rw [e] at eb
      cases eb
      exact hnf _ dd
    have nfrE := frN fl3.2.2.1 he3 hd3
    have nLo : a ≠ X.env.locals := fun z => nfrE (List.mem_filterMap.mpr ⟨X.env, List.mem_cons_self, by rw [hf, z]⟩)
    have nFr : a ∉ X.fs := fun hm => by
      obtain ⟨en, he, q⟩ := List.mem_filterMap.mp hm
      exact nfrE (List.mem_filterMap.mpr ⟨en, List.mem_cons_of_mem _ he, q⟩)
    have S3 := J3.suite he3 hd3 na nLo nFr
    have clauses : ∀ {hdsB : List ExceptHandler} {lB : List Cl}, HdsA X n hdsB lB → wManyA X.K i D lB cls d σ' H' → wpAny (model X.prog X.w) X.A (handleBy (.ref a) X.env hdsB) (SP X pins D) X.xe { s' with heap := h3 } := by
      intro hdsB lB hk
      induction hk with
      | nil => exact fun z => z.elim
      | @cons x c ts b₀ suite np pos' hds2 l2 hc hsu r ih =>
        intro wsh
        obtain ⟨b, hb1, hyes, hno⟩ := wsh
        refine wpAny_handleBy_cons (codeAny_handlers_test ?_) (by intro q; cases q)
        have LT : PySem.W.Looks (model X.prog X.w) h3 (typeOf (.ref a)) cls := fun A Q E s k q => wpAny_typeOf_ref (k _ _ he3) (by rw [hz3.1]; exact q)
        have LM := PySem.W.exm_one (M := model X.prog X.w) (J3.kIn) LT hb1
        have nameIs : ∀ {Q : Value → Shared → Prop} {E : Value → Shared → Prop}, Q c { s' with heap := h3 } → wpAny (model X.prog X.w) (X.A.mark (some (.ref a))) (eval (.Name x np) X.env) Q E { s' with heap := h3 } := fun {Q E} q => by
          obtain ⟨hg, hdbg, hm | ⟨hm, hv, hnn⟩⟩ := hc
          · exact ld_glob (X := X.suite a ((a, oe3) :: (X.pn ++ pins))) S3 hg hm q hdbg
          · exact ld_blt (X := X.suite a ((a, oe3) :: (X.pn ++ pins))) S3 hg hm hv q hnn hdbg
        refine nameIs (LM.here ?_)
        cases b with
        | true =>
          refine codeAny_handlers_suite_as ?_
          refine HandSPX.lands_againZ fl3 fun h4 fl4 up4 => ?_
          have J4 : Inv X pins σ' H' { s' with heap := h4 } := J.landed nb fl4.1 ((up.trans up3).trans up4) os ag
          obtain ⟨oe4, vs4, he4, hz4, hd4⟩ := fl4.there
          have S4 := J4.suite he4 hd4 na nLo nFr
          refine store_ok (X := X.suite a ((a, oe4) :: (X.pn ++ pins))) (v := .ref a) S4 hN hi locN rfl (fun s5 S5 => ?_) (.inr hln)
          refine wpAny_mono ((hsu a oe4 cls d (X.pn ++ pins) hz4 ⟨_, hd4⟩).run [] s5 _ H' _ S5 (hyes rfl a na)) (fun f s6 hsp => ?_) (fun _ _ z => False.elim z)
          have outA : ∀ {σ6 : L2.St} {H6 : Hp} {Q : Shared → Prop}, Inv (X.suite a ((a, oe4) :: (X.pn ++ pins))) [] σ6 H6 s6 → (∀ s7, Inv X pins (σ6.set i none) H6 s7 → Q s7) →
              wpAny (model X.prog X.w) X.A (do bindName X.env n .none; unbindBehindTheSuite X.env n pos') (fun _ s7 => Q s7) X.xe s6 := fun {σ6 H6 Q} S6 hq => gone_ok (S6.unsuite okI) hN hi hln hq
          cases f with
          | next =>
            obtain ⟨σ6, H6, S6, q6⟩ := hsp
            exact outA S6 fun s7 J7 => ⟨_, _, J7, q6⟩
          | brk =>
            obtain ⟨σ6, H6, S6, q6⟩ := hsp
            exact outA S6 fun s7 J7 => ⟨_, _, J7, q6⟩
          | cont =>
            obtain ⟨σ6, H6, S6, q6⟩ := hsp
            exact outA S6 fun s7 J7 => ⟨_, _, J7, q6⟩
          | ret u =>
            obtain ⟨v6, σ6, H6, S6, r6, q6⟩ := hsp
            exact outA S6 fun s7 J7 => ⟨_, _, _, J7, r6, q6⟩
        | false =>
          show wpAny _ X.A (handleBy (.ref a) X.env hds2) _ _ _
          exact ih (hno rfl)
    exact clauses hh wsh
  · cases f with
    | next =>
      obtain ⟨σN, HN, JN, q⟩ := hsp
      exact wpAny_execs_nil ⟨σN, HN, JN.ofTry okI, q⟩
    | brk =>
      obtain ⟨σN, HN, JN, q⟩ := hsp
      exact ⟨σN, HN, JN.ofTry okI, q⟩
    | cont =>
      obtain ⟨σN, HN, JN, q⟩ := hsp
      exact ⟨σN, HN, JN.ofTry okI, q⟩
    | ret u =>
      obtain ⟨v, σN, HN, JN, r, q⟩ := hsp
      exact ⟨v, σN, HN, JN.ofTry okI, r, q⟩
end
/-! ### C() raised, C without an __init__ of its own -/
theorem pmk_mk0 {X : Cx} {C : Addr} {x : Str} {p pos : Pos} (T : OexC X.K C) (iC : PySem.W.findIn X.K (.ref C) "__init__" = some (some (.builtin "ValueError.__init__"))) (hg : Gl X x) (hm : X.mg x = some (.ref C)) (hdb : (x == ("__debug__" : Str)) = false := by decide) :
    PMk X (.Call (.Name x p) [] [] pos) (fun _ H Q => Q (.ref C) none H) := by
  intro pins s σ H Q I h
  refine wpAny_Call_Name_kw (ld_glob I hg hm ?_ hdb)
  refine PySem.W.callWith_K0 I.kIn T.kC ?_
  obtain ⟨nm, q, N, bs, bm, sn, sub, ab, col, dd, k0, k1, k2, k3, k5, hC, hbm⟩ := T.cls
  obtain ⟨hp, gn, dr, tk, os⟩ := s
  have hsz : hp.objs.size ≤ hp.objs.size + 1 := Nat.le_succ _
  have hn1 : H (hp.objs.size + 1) = none := I.hok.fresh hsz
  have kk : ∀ b o, hp.get? b = some o → ((hp.push (PySem.W.kdv_tup [])).push (PySem.HandSPX.excO C hp.objs.size)).get? b = some o := fun b o e => Heap.get?_push_of_some _ (Heap.get?_push_of_some _ e)
  have hget : ((hp.push (PySem.W.kdv_tup [])).push (PySem.HandSPX.excO C hp.objs.size)).get? (hp.objs.size + 1) = some (PySem.HandSPX.excO C hp.objs.size) := by heap_get
  have hT2 := fun Y => PySem.HandSPX.refsVE_contains Y bm hbm
  refine wpAny_call (call_ownK (fv := .builtin "ValueError.__init__") (rst := []) (kw := []) F.excBase_ValueError hT2 (I.kIn _ _ hC) (PySem.W.looks_findIn I.kIn iC) (fun self => ?_) (Nat.zero_le _) ?_)
  · exact PySem.W.Looks.of_pure (F.excBase_ValueError.init.bind _)
  · refine PySem.HandSPX.init_base F.excBase_ValueError hT2 (kk _ _ (I.kIn _ _ hC)) hget (Nat.zero_le _) fun h' t1 k3 hx => ?_
    refine ⟨rfl, hp.objs.size + 1, _, _, ⟨hp, gn, dr, tk, os⟩, H, .ref C, none, rfl, I, fun b o e => k3 b o (Nat.ne_of_lt (Nat.lt_succ_of_lt (Heap.lt_size e))) (kk b o e), Heap.get?_none_of_le hsz, hx, ⟨rfl, rfl⟩, rfl, rfl, hn1, rfl, I.bare, raises_own T.exC T.tyC, h⟩
/-! ### isinstance of a caught error -/
def rIsC (K : PySem.W.Frag) (a : Addr) (cls : Value) (d : Option Addr) : List V → Hp → VK → Prop := fun xs H Q => ∃ (D : Addr) (c : V) (cv : Value) (b : Bool), cls = .ref D ∧ ExcC K D ∧ (∀ dd, d = some dd → ∃ fs, H dd = some (.xd fs)) ∧ xs = [.ref a, c] ∧ (∀ u, RelV c u → u = cv) ∧ PySem.W.kitOne K (.ref D) cv = some b ∧ Q (.bl b) H
theorem call_isC {X : Cx} {a : Addr} {oe : Obj} {cls : Value} {d : Option Addr} {pn : List (Addr × Obj)} (hz : Zc cls d oe) (hf : ∃ vs, oe.data = .fields vs) : CallR (X.suite a ((a, oe) :: pn)) (.builtin "isinstance") (rIsC X.K a cls d) := by
  intro pins s σ H xs us Q I r h
  obtain ⟨D, c, cv, b, rfl, T, hdd, rfl, hcv, e, q⟩ := h
  cases r with
  | cons rx rr =>
    cases rr with
    | cons rt rr =>
      cases rr
      cases rx
      obtain rfl := hcv _ rt
      obtain ⟨hget, _⟩ := I.pin (a, oe) (List.mem_append.mpr (.inl List.mem_cons_self))
      obtain ⟨vs, hv⟩ := hf
      obtain ⟨od, J⟩ : ∃ od, PySem.W.InstAt s.heap a oe D od := by
        obtain ⟨oc, odc, oda, osl⟩ := oe
        obtain ⟨h1, h2⟩ := hz
        dsimp only at h1 h2 hv
        subst h1 h2 hv
        cases odc with
        | none => exact ⟨none, hget, rfl, rfl, trivial⟩
        | some dd =>
          obtain ⟨fs, ed⟩ := hdd dd rfl
          have hx : ObjOk X.prog X.w H s.heap dd (.xd fs) := I.hok dd _ ed
          obtain ⟨mA, hns, _⟩ := hx
          obtain ⟨o2, ho2, _⟩ := lookIn_ns hns
          exact ⟨some o2, hget, rfl, rfl, ho2⟩
      exact PySem.W.kia_one (kitx_exX (ox := oe) T) I.kIn ⟨od, J⟩ e (fun z => nomatch z) fun tk => ⟨.bl b, H, I.kept (t' := tk) fun _ _ z => z, rfl, q⟩
end Sa

set_option Elab.async false
set_option linter.all false
set_option maxRecDepth 100000
set_option maxHeartbeats 4000000
namespace Sa
open PySem PySem.Spec PyProof.Rows L2
section
variable {P : Program} {w : World} {K : PySem.W.Frag} {mg : Str → Option Value} {base : Heap}
def ResP (v r : V) (H : Hp) : Nat → Prop
  | 0 => ∃ p, r = .ref p ∧ H p = some (.tup [.str "tree", v])
  | 1 => ∃ p, r = .ref p ∧ H p = some (.tup [.str "other", .bl false, .bl true])
  | 2 => ∃ p, r = .ref p ∧ H p = some (.tup [.str "other", .bl true, .bl true])
  | _ => r = .str "none"
theorem same_x {H : Hp} {a dx : Addr} {o1 o2 o3 o4 : HO} (na : H a = none) (nd : H dx = none) : Same H (L2.upd (del (L2.upd (L2.upd (L2.upd H a o1) dx o2) a o3) a) dx o4) := fun b o e => by
  have h1 : b ≠ a := ne_of_none e na
  have h2 : b ≠ dx := ne_of_none e nd
  rw [upd_ne h2, del_ne h1, upd_ne h1, upd_ne h2, upd_ne h1]
  exact e
def sp_raised : Sp := fun vs H Q _ => ∃ (k : Nat) (v : V), vs = [.int k, v] ∧ k < 4 ∧ ∀ r H', Same H H' → ResP v r H' k → Q r H'
theorem ok__law_raised (T : Top K mg) (TI : Ini P w base T) : FnOk P w K mg base CX0 3 T._law_raised T._law_raised_d ["_law_form", "_law_a"] sp_raised := by
  refine T._law_raised_f.ok sc__law_raised (fun vs H Q E h => ?_) (fun cdv A outer s H vs Q E hr h => ?_)
  · obtain ⟨k, v, rfl, _⟩ := h
    rfl
  obtain ⟨k, v, rfl, hk, q⟩ := h
  refine ⟨_, (pss_cons (ps_set (i := 2) sc__law_raised.nd rfl (.inl rfl) pe_str)
      (pss_cons (ps_try_manyA (i := 3) rfl rfl sc__law_raised.nd rfl rfl (fun W pn xe tk _ => (pss_cons (ps_if (pt_cmpR op_eq (pv 0) pe_int (nomark _)) (pss_one (ps_raise rfl tk (pmk_oex (T.cls T.NoTree (by simp)).oex T.NoTree_j T.NoTree_t TI.NoTree hr T.NoTree_p .nil pass0 (by rfl) T.NoTree_g (pa_cons (pv 1) pa_nil)))) pss_nil)
        (pss_cons (ps_if (pt_cmpR op_eq (pv 0) pe_int (nomark _)) (pss_one (ps_raise rfl tk (pmk_oex (T.cls T.TooMany (by simp)).oex T.TooMany_j T.TooMany_t TI.TooMany hr T.TooMany_p .nil pass0 (by rfl) T.TooMany_g (pa_cons (pv 1) pa_nil)))) pss_nil)
        (pss_one (ps_if (pt_cmpR op_eq (pv 0) pe_int (nomark _)) (pss_one (ps_raise rfl tk (pmk_mk0 (T.cls T.AtEnd (by simp)).oex T.AtEnd_j (by rfl) T.AtEnd_g))) pss_nil)))))
        (.cons ⟨rfl, by decide, .inl T.NoTree_g⟩ (fun a oe cls d pn hz hf => (pss_one (ps_set (i := 2) sc__law_raised.nd rfl (.inl rfl) (pe_tup (pa_cons pe_str (pa_cons (pe_xf (T.cls T.NoTree (by simp)).xf T.NoTree_path hz hf (pv 3)) pa_nil))))))
        (.cons ⟨rfl, by decide, .inl T.SaidError_g⟩ (fun a oe cls d pn hz hf => (pss_one (ps_set (i := 2) sc__law_raised.nd rfl (.inl rfl) (pe_tup (pa_cons pe_str (pa_cons (pe_callB (call_isC hz hf) (by rfl) T.isinstance_n (by decide +kernel) (pa_cons (pv 3) (pa_cons (pe_glob (v := .ref T.AtEnd) (by rfl) T.AtEnd_g rfl) pa_nil))) (pa_cons (pe_callB (call_isC hz hf) (by rfl) T.isinstance_n (by decide +kernel) (pa_cons (pv 3) (pa_cons (pe_bltn (v := .ty "ValueError") (u := .type "ValueError") (by rfl) T.ValueError_n (by decide +kernel) rfl) pa_nil))) pa_nil))))))) .nil)))
      (pss_one (ps_ret (pv 2))))), ?_⟩
  have hS : ∀ C, PySem.W.subIn K (.ref C) (.ref T.SaidError) = some true → PySem.W.exmOne K (.ref C) (.ref T.SaidError) = some true := fun C h => PySem.W.exm_ref T.S_b T.S_h T.S_t h
  have hT : ∀ C b, PySem.W.subIn K (.ref C) (.ref T.NoTree) = some b → PySem.W.exmOne K (.ref C) (.ref T.NoTree) = some b := fun C b h => PySem.W.exm_ref (T.cls T.NoTree (by simp)).exc.hs (T.cls T.NoTree (by simp)).exc.hd (T.cls T.NoTree (by simp)).oex.tyC h
  have ne1 : decide (T.TooMany = T.AtEnd) = false := decide_eq_false fun z => by
    have := T.ndc
    simp [z] at this
  have k4 : k = 0 ∨ k = 1 ∨ k = 2 ∨ k = 3 := by omega
  rcases k4 with rfl | rfl | rfl | rfl
  · refine ⟨_, rfl, rfl, _, rfl, ifSo (by decide) ⟨_, rfl, by simp, fun a na => ⟨a, v, rfl, upd_same, fun dx nd ne => ?_⟩⟩⟩
    rw [upd_ne ne] at nd
    refine ⟨rfl, dx, [("path", v)], upd_same, (by rw [upd_ne ne, upd_same]), nd, true, hT _ _ (T.cls T.NoTree (by simp)).sup.self, fun _ a' na' => ?_, fun z => by cases z⟩
    refine ⟨_, rfl, rfl, rfl, dx, [("path", v)], v, rfl, upd_same, rfl, Nat.le_of_lt (small1000 (by simp)), fun p np => ?_⟩
    exact ⟨_, rfl, q _ _ ((same_x na nd).trans (same_upd np)) ⟨p, rfl, upd_same⟩⟩
  · refine ⟨_, rfl, rfl, _, rfl, ifNo (by decide) ⟨_, rfl, rfl, _, rfl, ifSo (by decide) ⟨_, rfl, by simp, fun a na => ⟨a, v, rfl, upd_same, fun dx nd ne => ?_⟩⟩⟩⟩
    rw [upd_ne ne] at nd
    refine ⟨rfl, dx, [("most", v)], upd_same, (by rw [upd_ne ne, upd_same]), nd, false, hT _ _ T.TooMany_n, (fun z => by cases z), fun _ => ⟨true, hS _ T.TooMany_s, fun _ a' na' => ?_, fun z => by cases z⟩⟩
    have dd : ∀ d2, some dx = some d2 → ∃ fs, (L2.upd (del (L2.upd (L2.upd (L2.upd H a (exo a T.TooMany none)) dx (exd dx [("most", v)])) a (exo a T.TooMany (some dx))) a) dx (.xd [("most", v)])) d2 = some (.xd fs) := fun d2 z => by
      cases z
      exact ⟨_, upd_same⟩
    refine ⟨_, rfl, T.TooMany, _, .ref T.AtEnd, _, rfl, (T.cls T.TooMany (by simp)).exc, dd, rfl, fun u r => r, T.sep T.TooMany (by simp) T.AtEnd (by simp), ?_⟩
    refine ⟨_, rfl, T.TooMany, _, .type "ValueError", _, rfl, (T.cls T.TooMany (by simp)).exc, dd, rfl, fun u r => r, (T.cls T.TooMany (by simp)).toV, ?_⟩
    refine ⟨Nat.le_of_lt (small1000 (by simp)), fun p np => ?_⟩
    rw [ne1]
    exact ⟨_, rfl, q _ _ ((same_x na nd).trans (same_upd np)) ⟨p, rfl, upd_same⟩⟩
  · refine ⟨_, rfl, rfl, _, rfl, ifNo (by decide) ⟨_, rfl, rfl, _, rfl, ifNo (by decide) ⟨_, rfl, rfl, _, rfl, ifSo (by decide) ?_⟩⟩⟩
    refine ⟨false, hT _ _ T.AtEnd_n, (fun z => by cases z), fun _ => ⟨true, hS _ T.AtEnd_s, fun _ a' na' => ?_, fun z => by cases z⟩⟩
    refine ⟨_, rfl, T.AtEnd, _, .ref T.AtEnd, _, rfl, (T.cls T.AtEnd (by simp)).exc, (fun d2 z => by cases z), rfl, fun u r => r, T.sep T.AtEnd (by simp) T.AtEnd (by simp), ?_⟩
    refine ⟨_, rfl, T.AtEnd, _, .type "ValueError", _, rfl, (T.cls T.AtEnd (by simp)).exc, (fun d2 z => by cases z), rfl, fun u r => r, (T.cls T.AtEnd (by simp)).toV, ?_⟩
    refine ⟨Nat.le_of_lt (small1000 (by simp)), fun p np => ?_⟩
    rw [decide_eq_true (rfl : T.AtEnd = T.AtEnd)]
    exact ⟨_, rfl, q _ _ (same_upd np) ⟨p, rfl, upd_same⟩⟩
  · refine ⟨_, rfl, rfl, _, rfl, ifNo (by decide) ⟨_, rfl, rfl, _, rfl, ifNo (by decide) ⟨_, rfl, rfl, _, rfl, ifNo (by decide) ?_⟩⟩⟩
    exact ⟨_, rfl, q _ _ (Same.refl _) rfl⟩
end
end Sa

set_option Elab.async false
set_option linter.all false
set_option maxRecDepth 100000
set_option maxHeartbeats 4000000
namespace Sa
open PySem PySem.Spec PyProof.Rows L2
theorem for_enumL {K : PySem.W.Frag} {a : Addr} {xs : List V} {g : TG} {tb : TS} {D : Ends} {σ : L2.St} {H : Hp} (Pv : Nat → L2.St → Hp → Prop) (h0 : Pv 0 σ H) (hq : ∀ i σ H, Pv i σ H → SqL K H a xs)
    (hs : ∀ (i : Nat) (x : V) (T : Addr) (σ : L2.St) (H : Hp), xs[i]? = some x → Pv i σ H → H T = none → g (.ref T) σ (L2.upd H T (.tup [.int i, x])) fun σ2 H2 => tb { D with nx := Pv (i + 1), ct := Pv (i + 1), bk := D.nx } σ2 H2) (hd : ∀ σ H, Pv xs.length σ H → D.nx σ H) :
    ∃ W : Nat → Nat → L2.St → Hp → Prop, (∃ m, W 0 m σ H) ∧ ∀ i m σ H, W i m σ H →
      ((Ite K a).stop i H ∧ D.nx σ H) ∨ ((Ite K a).go i H ∧ ∃ N : L2.St → Hp → Prop, (∀ σ' H', N σ' H' → ∃ m', m' < m ∧ W (i + 1) m' σ' H') ∧ ∀ v H', (Ite K a).yld i H v H' → g v σ H' fun σ2 H2 => tb { D with nx := N, ct := N, bk := D.nx } σ2 H2) := by
  refine ⟨fun i m σ H => m = xs.length - i ∧ i ≤ xs.length ∧ Pv i σ H, ⟨xs.length, rfl, Nat.zero_le _, h0⟩, ?_⟩
  rintro i m σ H ⟨rfl, hi, pv⟩
  have qx := hq i σ H pv
  by_cases hlt : i < xs.length
  · have hx : xs[i]? = some xs[i] := List.getElem?_eq_getElem hlt
    refine .inr ⟨⟨xs, _, qx, hx⟩, Pv (i + 1), fun σ' H' pn => ⟨xs.length - (i + 1), by omega, rfl, hlt, pn⟩, fun v H' y => ?_⟩
    obtain ⟨T, x, rfl, hT, rfl, f1⟩ := y
    exact hs i x T σ H (f1 xs qx) pv hT
  · have ei : i = xs.length := by omega
    subst ei
    exact .inl ⟨⟨xs, qx, Nat.le_refl _⟩, hd σ H pv⟩
/-- [e for k in range(n)]: the answers are out -/
theorem lcR {n : Nat} {σ : L2.St} {j : Nat} {te : TE} {H1 : Hp} {D : Addr} {Qd : Hp → Prop} (out : List V) (ho : out.length = n) (hl : n < sizeLine) (nD : H1 D = none)
    (he : ∀ (i : Nat) y H, i < n → out[i]? = some y → Same H1 H → ∀ Q : VK, (∀ H', Same H H' → Q y H') → te ((wipe σ [j]).set j (some (.int (0 + i)))) H Q) (hw : ∀ y, wipe ((wipe σ [j]).set j y) [j] = wipe σ [j]) (q : ∀ H', Same H1 H' → H' D = some (.lst out) → Qd H') :
    ∃ W : Nat → Nat → Hp → Prop, (∃ m, W 0 m (L2.upd H1 D (.lst []))) ∧ ∀ i m H, W i m H →
      ((Itr 0 n).stop i H ∧ Qd H) ∨ ((Itr 0 n).go i H ∧ ∃ Nx : Hp → Prop, (∀ H', Nx H' → ∃ m', m' < m ∧ W (i + 1) m' H') ∧ ∀ x H', (Itr 0 n).yld i H x H' → gName j x (wipe σ [j]) H' fun σ2 H2 => wipe σ2 [j] = wipe σ [j] ∧ tYes σ2 H2 fun b H3 =>
        if b = true then te σ2 H3 fun y H4 => ∃ acc, H4 D = some (.lst acc) ∧ acc.length < sizeLine ∧ Nx (L2.upd H4 D (.lst (acc ++ [y]))) else Nx H3) := by
  refine lc_range (lo := 0) (n := n) (fun i H => i ≤ n ∧ Same H1 H ∧ H D = some (.lst (out.take i))) ⟨Nat.zero_le _, same_upd nD, upd_same⟩ ?_ ?_
  · rintro i H hi ⟨_, sm, eD⟩
    have eo : out[i]? = some out[i] := List.getElem?_eq_getElem (by omega)
    refine ⟨hw _, he i _ H hi eo sm _ fun H4 s4 => ⟨_, s4 _ _ eD, by rw [List.length_take]; omega, hi, fun b o e => ?_, ?_⟩⟩
    · rw [upd_ne (ne_of_none e nD)]
      exact s4 _ _ (sm _ _ e)
    · rw [upd_same, List.take_add_one, eo]
      rfl
  · rintro H ⟨_, sm, eD⟩
    refine q H sm ?_
    rw [eD, List.take_of_length_le (by omega)]
section
variable {P : Program} {w : World} {K : PySem.W.Frag} {mg : Str → Option Value} {base : Heap}
theorem ResP.mono {v r : V} {H H' : Hp} {k : Nat} (x : ∀ b xs, H b = some (.tup xs) → H' b = some (.tup xs)) (h : ResP v r H k) : ResP v r H' k := by
  match k, h with
  | 0, h => obtain ⟨p, e, z⟩ := h; exact ⟨p, e, x _ _ z⟩
  | 1, h => obtain ⟨p, e, z⟩ := h; exact ⟨p, e, x _ _ z⟩
  | 2, h => obtain ⟨p, e, z⟩ := h; exact ⟨p, e, x _ _ z⟩
  | _ + 3, h => exact h
theorem lc_res {v : V} {σ : L2.St} {j : Nat} {te : TE} {H1 : Hp} {D : Addr} {Qd : Hp → Prop} (nD : H1 D = none)
    (he : ∀ (i : Nat) H, i < 4 → Same H1 H → ∀ Q : VK, (∀ r H', Same H H' → ResP v r H' i → Q r H') → te ((wipe σ [j]).set j (some (.int (0 + i)))) H Q) (hw : ∀ y, wipe ((wipe σ [j]).set j y) [j] = wipe σ [j])
    (q : ∀ H' vs, Same H1 H' → H' D = some (.lst vs) → vs.length = 4 → (∀ i z, vs[i]? = some z → ResP v z H' i) → Qd H') :
    ∃ W : Nat → Nat → Hp → Prop, (∃ m, W 0 m (L2.upd H1 D (.lst []))) ∧ ∀ i m H, W i m H →
      ((Itr 0 4).stop i H ∧ Qd H) ∨ ((Itr 0 4).go i H ∧ ∃ Nx : Hp → Prop, (∀ H', Nx H' → ∃ m', m' < m ∧ W (i + 1) m' H') ∧ ∀ x H', (Itr 0 4).yld i H x H' → gName j x (wipe σ [j]) H' fun σ2 H2 => wipe σ2 [j] = wipe σ [j] ∧ tYes σ2 H2 fun b H3 =>
        if b = true then te σ2 H3 fun y H4 => ∃ acc, H4 D = some (.lst acc) ∧ acc.length < sizeLine ∧ Nx (L2.upd H4 D (.lst (acc ++ [y]))) else Nx H3) := by
  refine lc_range (lo := 0) (n := 4) (fun i H => i ≤ 4 ∧ Same H1 H ∧ ∃ vs, H D = some (.lst vs) ∧ vs.length = i ∧ ∀ k z, vs[k]? = some z → ResP v z H k) ⟨Nat.zero_le _, same_upd nD, [], upd_same, rfl, fun k z h => by simp at h⟩ ?_ ?_
  · rintro i H hi ⟨_, sm, vs, eD, lD, gD⟩
    refine ⟨hw _, he i H hi sm _ fun r H4 s4 g4 => ⟨vs, s4 _ _ eD, small1000 (by omega), hi, fun b o e => ?_, vs ++ [r], upd_same, by rw [List.length_append, lD]; rfl, fun k z hz => ?_⟩⟩
    · rw [upd_ne (ne_of_none e nD)]
      exact s4 _ _ (sm _ _ e)
    · have keep : ∀ b xs, H4 b = some (.tup xs) → (L2.upd H4 D (.lst (vs ++ [r]))) b = some (.tup xs) := fun b xs e => by
        rw [upd_ne (fun z => by rw [z, s4 _ _ eD] at e; cases e)]
        exact e
      by_cases hk : k < vs.length
      · rw [List.getElem?_append_left hk] at hz
        exact ((gD k z hz).mono fun b xs e => s4 _ _ e).mono keep
      · rw [List.getElem?_append_right (by omega)] at hz
        have hk2 : k - vs.length = 0 := by
          rcases Nat.eq_zero_or_pos (k - vs.length) with h | h
          · exact h
          · rw [List.getElem?_eq_none (by simp; omega)] at hz
            cases hz
        rw [hk2] at hz
        have ek : k = i := by omega
        have er : r = z := Option.some.inj hz
        subst ek er
        exact g4.mono keep
  · rintro H ⟨_, sm, vs, eD, lD, gD⟩
    exact q H vs sm eD lD gD
theorem Da.any {F : AS} {H : Hp} {v : V} {d : PyData} (h : Da F H v d) : Da (fun _ => False) H v d := Da.mono (fun a o n e => ⟨fun z => z, e⟩) d v h
theorem Same.ext {f : Addr} {H H1 H2 : Hp} (s : Same H H1) (n : H f = none) (x : Ext f H1 H2) : Same H H2 := fun b o e => x b o (ne_of_none e n) (s b o e)
theorem made_get (T : Top K mg) {a b : V} {m : Nat} {C : Addr} {xs : List V} (h : (madeL T a b)[m]? = some (C, xs)) : (csOf T)[m]? = some C ∧ (∀ x ∈ xs, x = a ∨ x = b) ∧ xs.length ≤ 2 := by
  match m, h with
  | 0, h => cases h; exact ⟨rfl, by simp, by simp⟩
  | 1, h => cases h; exact ⟨rfl, by simp, by simp⟩
  | 2, h => cases h; exact ⟨rfl, by simp, by simp⟩
  | 3, h => cases h; exact ⟨rfl, by simp, by simp⟩
  | 4, h => cases h; exact ⟨rfl, by simp, by simp⟩
  | 5, h => cases h; exact ⟨rfl, by simp, by simp⟩
  | 6, h => cases h; exact ⟨rfl, by simp, by simp⟩
  | 7, h => cases h; exact ⟨rfl, by simp, by simp⟩
  | 8, h => cases h; exact ⟨rfl, by simp, by simp⟩
  | 9, h => cases h; exact ⟨rfl, by simp, by simp⟩
  | 10, h => cases h; exact ⟨rfl, by simp, by simp⟩
  | 11, h => cases h; exact ⟨rfl, by simp, by simp⟩
  | _ + 12, h => cases h
theorem da_all2 {F : AS} {H : Hp} {a b : V} {da db : PyData} (ha : Da F H a da) (hb : Da F H b db) : ∀ {xs : List V}, (∀ x ∈ xs, x = a ∨ x = b) → ∃ ds, DaAll F H xs ds ∧ ds.length = xs.length ∧ ∀ d ∈ ds, d = da ∨ d = db
  | [], _ => ⟨[], .nil, rfl, fun d h => by cases h⟩
  | x :: xs, h => by
    obtain ⟨ds, h1, h2, h3⟩ := da_all2 ha hb (xs := xs) fun y hy => h y (List.mem_cons_of_mem _ hy)
    rcases h x List.mem_cons_self with rfl | rfl
    · exact ⟨da :: ds, .cons ha h1, by rw [List.length_cons, h2]; rfl, fun d hd => (List.mem_cons.mp hd).elim .inl (h3 d)⟩
    · exact ⟨db :: ds, .cons hb h1, by rw [List.length_cons, h2]; rfl, fun d hd => (List.mem_cons.mp hd).elim .inr (h3 d)⟩
theorem dp_bools {H : Hp} : ∀ bs : List Bool, DpAll K H (bs.map V.bl) (bs.map PyData.bool)
  | [] => .nil
  | b :: bs => .cons (.bl b) (dp_bools bs)
theorem eqv_bools : ∀ bs : List Bool, PyData.eqvAll (bs.map PyData.bool) (bs.map PyData.bool) = true
  | [] => rfl
  | b :: bs => by simp [PyData.eqvAll, PyData.eqv, eqv_bools bs]
theorem sorts_eq (T : Top K mg) {m : Nat} {C : Addr} (h : (csOf T)[m]? = some C) : (csOf T).map (fun D => decide (C = D)) = (List.range 12).map fun j => decide (V.int (0 + ((j : Nat) : Int)) = V.int ((m : Nat) : Int)) := by
  obtain ⟨hm, e⟩ := List.getElem?_eq_some_iff.mp h
  refine List.ext_getElem (by simp) fun i h1 h2 => ?_
  rw [List.getElem_map, List.getElem_map, List.getElem_range]
  rw [List.length_map] at h1
  have nd : (csOf T).Nodup := T.ndc
  rw [Bool.eq_iff_iff, decide_eq_true_eq, decide_eq_true_eq]
  refine ⟨fun z => ?_, fun z => ?_⟩
  · have z1 : (csOf T)[m] = (csOf T)[i] := e.trans z
    have : m = i := by
      rcases Nat.lt_trichotomy m i with h | h | h
      · exact absurd z1 (List.pairwise_iff_getElem.mp nd m i hm h1 h)
      · exact h
      · exact absurd z1.symm (List.pairwise_iff_getElem.mp nd i m h1 hm h)
    rw [this, Int.zero_add]
  · have z2 : (0 : Int) + (i : Int) = (m : Int) := by injection z
    have : i = m := by omega
    subst this
    exact e.symm
def spLaw (K : PySem.W.Frag) : Sp := fun vs H Q _ => ∃ (a : Addr) (ns : List Int), vs = [.ref a] ∧ SqL K H a (ns.map V.int) ∧ ns.length ≤ 63 ∧ ∀ H', Q (.bl true) H'
theorem ok_law (T : Top K mg) (TI : Ini P w base T) : FnOk P w K mg base CX0 9 T.law T.law_d ["_law_script"] (spLaw K) := by
  refine T.law_f.ok sc_law (fun vs H Q E h => ?_) (fun cdv A outer s H vs Q E hr h => ?_)
  · obtain ⟨a, ns, rfl, _⟩ := h
    rfl
  obtain ⟨a, ns, rfl, hS, hlen, q⟩ := h
  -- slots: 0 _law_script, 1 _law_k, 2 _law_feed, 3 _law_a, 4 _law_b, 5 _law_index, 6 _law_error, 7 _law_kept, 8 _law_due, 9 _law_form, 10 _law_at
  refine ⟨_, (pss_cons (ps_for PassesOwn.never rfl (pi_range1 (by rfl) T.range_n (pa_cons (pe_callB (call_max2 rfl) (by rfl) T.max_n (by decide +kernel) (pa_cons pe_int (pa_cons (pe_callB (call_min2 rfl) (by rfl) T.min_n (by decide +kernel) (pa_cons pe_int (pa_cons (pe_callB call_len_seq (by rfl) T.len_n (by decide +kernel) (pa_cons (pv 0) pa_nil)) pa_nil))) pa_nil))) pa_nil)) (pg_name (i := 1) sc_law.nd rfl (.inl rfl)) (pss_cons (ps_set (i := 2) sc_law.nd rfl (.inl rfl) (pe_call (ok__law_feed_of T) (hr.mono (by decide)) rfl T._law_feed_of_g T._law_feed_of_k T._law_feed_of_b .nil pass0 (pa_cons (pv 0) (pa_cons (pv 1) pa_nil))))
      (pss_cons (ps_asg (pe_tup (pa_cons (pe_call (ok__law_any_value T) (hr.mono (by decide)) rfl T._law_any_value_g T._law_any_value_k T._law_any_value_b1 T._law_any_value_v1 pass0 (pa_cons (pv 2) pa_nil)) (pa_cons (pe_call (ok__law_any_value T) (hr.mono (by decide)) rfl T._law_any_value_g T._law_any_value_k T._law_any_value_b1 T._law_any_value_v1 pass0 (pa_cons (pv 2) pa_nil)) pa_nil))) (pg_tup rfl (pgs_cons (pg_name (i := 3) sc_law.nd rfl (.inr rfl)) (pgs_cons (pg_name (i := 4) sc_law.nd rfl (.inl rfl)) pgs_nil))))
      (pss_cons (ps_for PassesOwn.never rfl (pi_enum (by rfl) T.enumerate_n (pa_cons (pe_call (ok__law_made T TI) (hr.mono (by decide)) rfl T._law_made_g T._law_made_k T._law_made_b .nil pass0 (pa_cons (pv 3) (pa_cons (pv 4) pa_nil))) pa_nil)) (pg_tup rfl (pgs_cons (pg_name (i := 5) sc_law.nd rfl (.inr rfl)) (pgs_cons (pg_tup rfl (pgs_cons (pg_name (i := 6) sc_law.nd rfl (.inl rfl)) (pgs_cons (pg_name (i := 7) sc_law.nd rfl (.inl rfl)) (pgs_cons (pg_name (i := 8) sc_law.nd rfl (.inl rfl)) pgs_nil)))) pgs_nil))) (pss_cons (ps_if (PW.pt (pw_or (pt_not (pt_val (pe_call (ok_same T 8) (hr.mono (by decide)) rfl T._law_same_g T._law_same_k T._law_same_b .nil pass0 (pa_cons (pv 7) (pa_cons (pv 8) pa_nil))))) (pw_or1 (pt_cmpR (op_neD hr.units) (pe_call (ok__law_sorts T) (hr.mono (by decide)) rfl T._law_sorts_g T._law_sorts_k T._law_sorts_b .nil pass0 (pa_cons (pv 6) pa_nil)) (pe_lc (own := [("_law_at", 10)]) (g := (gName 10)) (tt := tYes) (by rfl) sc_law.nd (pi_range1 (by rfl) T.range_n (pa_cons pe_int pa_nil)) (blkOk_by (own := [("_law_at", 10)]) (N := ["_law_script", "_law_k", "_law_feed", "_law_a", "_law_b", "_law_index", "_law_error", "_law_kept", "_law_due", "_law_form", "_law_at"]) (sc := defScope s_law) (by decide +kernel)) (fun _ _ _ _ _ => (pg_name (i := 10) sc_law.nd rfl (.inl rfl))) (fun _ _ _ _ _ => pts_nil) (fun _ _ _ _ _ => (pe_cmpR op_eq (pv 10) (pv 5) (nomark _)))) (nomark _))))) (pss_one (ps_ret pe_bl)) pss_nil)
      (pss_one (ps_if (PW.pt (pw_or (pt_not (pt_val (pe_callB call_isX (by rfl) T.isinstance_n (by decide +kernel) (pa_cons (pv 6) (pa_cons (pe_glob (v := .ref T.SaidError) (by rfl) T.SaidError_g rfl) pa_nil))))) (pw_or1 (pt_not (pt_val (pe_callB call_isX (by rfl) T.isinstance_n (by decide +kernel) (pa_cons (pv 6) (pa_cons (pe_bltn (v := .ty "ValueError") (u := .type "ValueError") (by rfl) T.ValueError_n (by decide +kernel) rfl) pa_nil)))))))) (pss_one (ps_ret pe_bl)) pss_nil))))
      (pss_cons (ps_set (i := 8) sc_law.nd rfl (.inl rfl) (pe_lst (pa_cons (pe_tup (pa_cons pe_str (pa_cons (pv 3) pa_nil))) (pa_cons (pe_tup (pa_cons pe_str (pa_cons pe_bl (pa_cons pe_bl pa_nil)))) (pa_cons (pe_tup (pa_cons pe_str (pa_cons pe_bl (pa_cons pe_bl pa_nil)))) (pa_cons pe_str pa_nil))))))
      (pss_one (ps_if (pt_not (pt_val (pe_call (ok_same T 8) (hr.mono (by decide)) rfl T._law_same_g T._law_same_k T._law_same_b .nil pass0 (pa_cons (pe_lc (own := [("_law_form", 9)]) (g := (gName 9)) (tt := tYes) (by rfl) sc_law.nd (pi_range1 (by rfl) T.range_n (pa_cons pe_int pa_nil)) (blkOk_by (own := [("_law_form", 9)]) (N := ["_law_script", "_law_k", "_law_feed", "_law_a", "_law_b", "_law_index", "_law_error", "_law_kept", "_law_due", "_law_form", "_law_at"]) (sc := defScope s_law) (by decide +kernel)) (fun _ _ _ _ _ => (pg_name (i := 9) sc_law.nd rfl (.inl rfl))) (fun _ _ _ _ _ => pts_nil) (fun _ _ _ _ _ => (pe_call (ok__law_raised T TI) (hr.mono (by decide)) rfl T._law_raised_g T._law_raised_k T._law_raised_b .nil pass0 (pa_cons (pv 9) (pa_cons (pv 3) pa_nil))))) (pa_cons (pv 8) pa_nil))))) (pss_one (ps_ret pe_bl)) pss_nil)))))))
      (pss_one (ps_ret pe_bl))), ?_⟩
  refine ⟨_, rfl, a, _, rfl, .inl hS, _, _, rfl, _, _, rfl, _, rfl, ?_, ?_, ?_⟩
  · split <;> split <;> omega
  · rw [List.length_map]
    split <;> split <;> omega
  refine for_range (lo := 0) (fun i σ H' => ∃ y1 y2 y3 y4 y5 y6 y7 y8 y9 y10, σ = [some (.ref a), y1, y2, y3, y4, y5, y6, y7, y8, y9, y10] ∧ Same H H') ⟨none, none, none, none, none, none, none, none, none, none, rfl, Same.refl _⟩ ?_ ?_
  · rintro i σ H1 hi ⟨y1, y2, y3, y4, y5, y6, y7, y8, y9, y10, rfl, s1⟩
    have hi5 : i ≤ 1000 := by
      rw [List.length_map] at hi
      have : i < 6 := by
        refine Nat.lt_of_lt_of_le hi ?_
        split <;> split <;> omega
      omega
    refine go_name ?_
    refine ⟨_, rfl, _, rfl, a, ns, i, (by rw [Int.zero_add]; rfl), s1.seq hS, hi5, fun f H2 nf1 s2 b2 => go_name ?_⟩
    have nf : H f = none := s1.free nf1
    have hT2 : Trk (fun a => a = f) H2 := fun a ha => by
      obtain ⟨g, z, e, _⟩ := b2
      exact ⟨_, ha ▸ e⟩
    refine ⟨_, rfl, f, fun a => a = f, 3, rfl, by decide, by decide, b2, rfl, hT2, fun av ad H3 x3 b3 a3 g3 => ?_⟩
    refine ⟨_, rfl, f, fun a => a = f, 3, rfl, by decide, by decide, b3, rfl, hT2.ext x3 b3, fun bv bd H4 x4 b4 a4 g4 => ?_⟩
    refine ⟨Nat.le_of_lt (small1000 (by simp)), fun p np => ?_⟩
    have s5 := same_upd (o := .tup [av, bv]) np
    have A5 := ((a3.ext x4 rfl).any).same s5
    have B5 := (a4.any).same s5
    have sH5 : Same H _ := (Same.ext (s1.trans s2) nf (x3.trans x4)).trans s5
    refine ⟨p, _, rfl, SqT.of upd_same, rfl, _, _, rfl, _, _, rfl, rfl, ?_⟩
    generalize L2.upd H4 p (.tup [av, bv]) = H5 at A5 B5 sH5
    refine ⟨_, rfl, _, rfl, av, bv, rfl, fun v H6 s6 g6 => ?_⟩
    obtain ⟨L, rows, rfl, eL, rr⟩ := g6
    have A6 := A5.same s6
    have B6 := B5.same s6
    refine ⟨L, rows, rfl, SqL.of eL, for_enumL (xs := rows) (fun m σ H' => ∃ y5 y6 y7 y8, σ = [some (.ref a), some (.int (0 + i)), some (.ref f), some av, some bv, y5, y6, y7, y8, y9, y10] ∧ Same H6 H') ⟨y5, y6, y7, y8, rfl, Same.refl _⟩ ?_ ?_ ?_⟩
    · rintro m σ H' ⟨_, _, _, _, _, s7⟩
      exact SqL.of (s7 _ _ eL)
    · rintro m x Tt σ H7 ex ⟨z5, z6, z7, z8, rfl, s7⟩ nT
      obtain ⟨C, xs, el, row⟩ := rr.get ex
      obtain ⟨hcs, hxs, hl2⟩ := made_get T el
      have hC : C ∈ csOf T := List.mem_of_getElem? hcs
      have s8 := s7.trans (same_upd (o := .tup [.int m, x]) nT)
      have row8 := mn_row _ _ _ s8 row
      have A8 := A6.same s8
      have B8 := B6.same s8
      have eT : (L2.upd H7 Tt (.tup [.int m, x])) Tt = some (.tup [.int m, x]) := upd_same
      generalize L2.upd H7 Tt (.tup [.int m, x]) = H8 at s8 row8 A8 B8 eT
      obtain ⟨p', e, k, u, rfl, ep, er, ek, eu⟩ := row8
      refine ⟨Tt, _, rfl, SqT.of eT, rfl, _, _, rfl, _, _, rfl, p', _, rfl, SqT.of ep, rfl, _, _, rfl, _, _, rfl, _, _, rfl, rfl, rfl, ?_⟩
      obtain ⟨ds, dA, dl, dm⟩ := da_all2 A8 B8 hxs
      have gd : Gn 6 4 (.list ds) := Gn.list (by omega) fun d hd => (dm d hd).elim (fun z => z ▸ g3) (fun z => z ▸ g4)
      refine ⟨_, rfl, _, rfl, fun _ => False, fun _ => False, .ref k, .ref u, .list ds, 6, 4, rfl, .lst (fun z => z) ek dA, .lst (fun z => z) eu dA, gd, by decide, by decide, by decide, fun H9 s9 => ⟨true, rfl, ifNo rfl ?_⟩⟩
      have er9 := mn_er _ _ _ s9 er
      refine ⟨_, rfl, C, e, rfl, er9, hC, fun p2 HA sA np2 ep2 => ?_⟩
      refine ⟨12, rfl, by decide, by decide, fun D nD => ?_⟩
      refine lcR (j := 10) (((List.range 12).map fun j => decide (V.int (0 + ((j : Nat) : Int)) = V.int ((m : Nat) : Int))).map V.bl) (by simp) (small1000 (by decide)) nD (fun i' y H' hi' ey sm Q' q' => ?_) (fun y => rfl) (fun HB sB eD => ?_)
      · have ey2 : y = V.bl (decide (V.int (0 + ((i' : Nat) : Int)) = V.int ((m : Nat) : Int))) := by
          rw [List.getElem?_map, List.getElem?_map, List.getElem?_range (show i' < 12 from hi')] at ey
          exact (Option.some.inj ey).symm
        subst ey2
        exact ⟨_, rfl, _, rfl, rfl, q' H' (Same.refl _)⟩
      · have ep3 : HB p2 = some (.lst (((List.range 12).map fun j => decide (V.int (0 + ((j : Nat) : Int)) = V.int ((m : Nat) : Int))).map V.bl)) := by
          rw [sB _ _ ep2, ← sorts_eq T hcs, List.map_map]
          rfl
        have shp : Gn 12 1 (.list (((List.range 12).map fun j => decide (V.int (0 + ((j : Nat) : Int)) = V.int ((m : Nat) : Int))).map PyData.bool)) := Gn.list (by simp) fun d hd => by
          obtain ⟨b, _, rfl⟩ := List.mem_map.mp hd
          exact gn_bl
        refine ⟨_, _, .lst (SqL.of ep3) (dp_bools _), .lst (SqL.of eD) (dp_bools _), shp.shaped (by decide), shp.shaped (by decide), _, rfl, ifNo ?_ ?_⟩
        · simp only [PyData.eqv, eqv_bools, Bool.not_true]
        have erB := mn_er _ _ _ (sA.trans sB) er9
        obtain ⟨ea, dd, rfl, hea, hdd⟩ := erB
        refine ⟨_, rfl, ea, C, dd, .ref T.SaidError, .ref T.SaidError, _, rfl, hea, hdd, (T.cls C hC).exc, fun u r => r, (T.cls C hC).toS, true, rfl, ifNo rfl ?_⟩
        refine ⟨_, rfl, ea, C, dd, .ty "ValueError", .type "ValueError", _, rfl, hea, hdd, (T.cls C hC).exc, fun u r => r, (T.cls C hC).toV, true, rfl, ifNo rfl ?_⟩
        exact ⟨_, _, _, _, rfl, (s8.trans s9).trans (sA.trans sB)⟩
    · rintro σ H7 ⟨z5, z6, z7, z8, rfl, s7⟩
      have A7 := A6.same s7
      refine ⟨_, rfl, Nat.le_of_lt (small1000 (by simp)), fun p1 n1 => ⟨Nat.le_of_lt (small1000 (by simp)), fun p2 n2 => ⟨Nat.le_of_lt (small1000 (by simp)), fun p3 n3 => ⟨Nat.le_of_lt (small1000 (by simp)), fun p4 n4 => go_name ?_⟩⟩⟩⟩
      have t1 := same_upd (o := .tup [.str "tree", av]) n1
      have t2 := same_upd (o := .tup [.str "other", .bl false, .bl true]) n2
      have t3 := same_upd (o := .tup [.str "other", .bl true, .bl true]) n3
      have t4 := same_upd (o := .lst [.ref p1, .ref p2, .ref p3, .str "none"]) n4
      have e4 : _ = some (HO.lst [.ref p1, .ref p2, .ref p3, .str "none"]) := upd_same (H := L2.upd (L2.upd (L2.upd H7 p1 (.tup [.str "tree", av])) p2 (.tup [.str "other", .bl false, .bl true])) p3 (.tup [.str "other", .bl true, .bl true])) (a := p4) (o := .lst [.ref p1, .ref p2, .ref p3, .str "none"])
      have e1 := t4 _ _ (t3 _ _ (t2 _ _ (upd_same (H := H7) (a := p1) (o := .tup [.str "tree", av]))))
      have e2 := t4 _ _ (t3 _ _ (upd_same (H := L2.upd H7 p1 (.tup [.str "tree", av])) (a := p2) (o := .tup [.str "other", .bl false, .bl true])))
      have e3 := t4 _ _ (upd_same (H := L2.upd (L2.upd H7 p1 (.tup [.str "tree", av])) p2 (.tup [.str "other", .bl false, .bl true])) (a := p3) (o := .tup [.str "other", .bl true, .bl true]))
      have t14 := t1.trans (t2.trans (t3.trans t4))
      have A8 := A7.same t14
      have sH8 := (sH5.trans s6).trans (s7.trans t14)
      generalize L2.upd (L2.upd (L2.upd (L2.upd H7 p1 (.tup [.str "tree", av])) p2 (.tup [.str "other", .bl false, .bl true])) p3 (.tup [.str "other", .bl true, .bl true])) p4 (.lst [.ref p1, .ref p2, .ref p3, .str "none"]) = H8 at e1 e2 e3 e4 A8 sH8
      refine ⟨4, rfl, by decide, by decide, fun D nD => lc_res (v := av) (j := 9) nD (fun i' H' hi' sm Q' q' => ?_) (fun y => rfl) (fun H9 vs s9 eD lD gD => ?_)⟩
      · exact ⟨_, rfl, _, rfl, i', av, (by rw [Int.zero_add]; rfl), hi', q'⟩
      · match vs, lD, gD, eD with
        | [r0, r1, r2, r3], _, gD, eD =>
          obtain ⟨q0, rfl, w0⟩ := gD 0 r0 rfl
          obtain ⟨q1, rfl, w1⟩ := gD 1 r1 rfl
          obtain ⟨q2, rfl, w2⟩ := gD 2 r2 rfl
          have w3 : r3 = .str "none" := gD 3 r3 rfl
          subst w3
          have A9 := A8.same s9
          have gA : Gn 6 4 (.tuple [.str "tree", ad]) := Gn.tuple (by simp) fun d hd => by
            simp only [List.mem_cons, List.not_mem_nil, or_false] at hd
            rcases hd with rfl | rfl
            · exact gn_str (by decide +kernel)
            · exact g3
          have gB : ∀ x y, Gn 6 4 (.tuple [.str "other", .bool x, .bool y]) := fun x y => Gn.tuple (by simp) fun d hd => by
            simp only [List.mem_cons, List.not_mem_nil, or_false] at hd
            rcases hd with rfl | rfl | rfl
            · exact gn_str (by decide +kernel)
            · exact gn_bl
            · exact gn_bl
          have gL : Gn 6 5 (.list [.tuple [.str "tree", ad], .tuple [.str "other", .bool false, .bool true], .tuple [.str "other", .bool true, .bool true], .str "none"]) := Gn.list (by simp) fun d hd => by
            simp only [List.mem_cons, List.not_mem_nil, or_false] at hd
            rcases hd with rfl | rfl | rfl | rfl
            · exact gA
            · exact gB _ _
            · exact gB _ _
            · exact gn_str (by decide +kernel)
          refine ⟨_, rfl, fun _ => False, fun _ => False, .ref D, .ref p4, _, 6, 5, rfl,
            .lst (fun z => z) eD (.cons (.tup (fun z => z) w0 (.cons (.str _) (.cons A9 .nil))) (.cons (.tup (fun z => z) w1 (.cons (.str _) (.cons (.bl _) (.cons (.bl _) .nil)))) (.cons (.tup (fun z => z) w2 (.cons (.str _) (.cons (.bl _) (.cons (.bl _) .nil)))) (.cons (.str _) .nil)))),
            .lst (fun z => z) (s9 _ _ e4) (.cons (.tup (fun z => z) (s9 _ _ e1) (.cons (.str _) (.cons A9 .nil))) (.cons (.tup (fun z => z) (s9 _ _ e2) (.cons (.str _) (.cons (.bl _) (.cons (.bl _) .nil)))) (.cons (.tup (fun z => z) (s9 _ _ e3) (.cons (.str _) (.cons (.bl _) (.cons (.bl _) .nil)))) (.cons (.str _) .nil)))),
            gL, by decide, by decide, by decide, fun HC sC => ⟨true, rfl, ifNo rfl ?_⟩⟩
          exact ⟨_, _, _, _, _, _, _, _, _, _, rfl, (sH8.trans s9).trans sC⟩
  · rintro σ H' ⟨y1, y2, y3, y4, y5, y6, y7, y8, y9, y10, rfl, s1⟩
    exact q H'
end
end Sa

set_option Elab.async false
set_option linter.all false
set_option maxRecDepth 100000
set_option maxHeartbeats 4000000
namespace Sa
open PySem PySem.Spec PyProof.Rows L2
/-! ### what the classes must say, as tests -/
def clB (K : PySem.W.Frag) (C S : Addr) : Bool :=
  decide (PySem.W.findIn K (.ref C) "__setattr__" = some (some (.builtin "object.__setattr__"))) && (decide (PySem.W.subIn K (.ref C) (.type "BaseException") = some true) && (decide (PySem.W.typeIn K (.ref C) = some (.type "type")) && (PySem.W.keepIn K (.ref C) &&
  (decide (PySem.W.findIn K (.ref C) "__getattribute__" = some (some (.builtin "BaseException.__getattribute__"))) && (decide (PySem.W.findIn K (.ref C) "__getattr__" = some none) && (PySem.W.hasDictIn K C && (decide (PySem.W.findIn K (.ref C) "__class__" = some (some (.builtin "object.__class__"))) &&
  (decide (PySem.W.specialIn K (.builtin "object.__class__") "__get__" = some (some (.builtin "getset_descriptor.__get__"))) && (decide (PySem.W.takesIn K (.builtin "object.__class__") = some true) && (decide (PySem.W.mroIn K C (.type "object") = some true) && ((match PySem.W.clsIn K C, PySem.W.clsIn K S with
    | some cd, some cdS => decide (cd.mro = .ref C :: cdS.mro)
    | _, _ => false) &&
  (decide (PySem.W.findIn K (.ref S) "__init__" = some (some (.builtin "ValueError.__init__"))) && (decide (PySem.W.mroIn K C (.type "ValueError") = some true) && (decide (PySem.W.nsIn K cStatics "thirdparty.any" = some none) && (decide (PySem.W.subIn K (.ref C) (.ref C) = some true) &&
  (decide (PySem.W.kitOne K (.ref C) (.ref S) = some true) && decide (PySem.W.kitOne K (.ref C) (.type "ValueError") = some true)))))))))))))))))
theorem mkX {K : PySem.W.Frag} {C S : Addr} (o : ∃ nm q N bs bm sn sub ab col dd k0 k1 k2 k3 k5, K.lookup C = some (excClassObj nm q C N bs bm true sn sub ab col dd k0 k1 k2 k3 k5 "ValueError.__new__") ∧ PySem.HandSPX.refsVE bm = true) (h : clB K C S = true) : XCls K C S := by
  unfold clB at h
  simp only [Bool.and_eq_true, decide_eq_true_eq] at h
  obtain ⟨h1, h2, h3, h4, h5, h6, h7, h8, h9, h10, h11, h12, h13, h14, h15, h16, h17, h18⟩ := h
  have oex : OexC K C := ⟨o, h1, h2, h3, h4⟩
  have mro : ∃ cd cdS, PySem.W.clsIn K C = some cd ∧ PySem.W.clsIn K S = some cdS ∧ cd.mro = .ref C :: cdS.mro := by
    cases e1 : PySem.W.clsIn K C with
    | none => rw [e1] at h12; cases h12
    | some cd =>
      cases e2 : PySem.W.clsIn K S with
      | none => rw [e1, e2] at h12; cases h12
      | some cdS =>
        rw [e1, e2] at h12
        exact ⟨cd, cdS, rfl, rfl, of_decide_eq_true h12⟩
  exact ⟨oex, ⟨h5, h6, h2, h7, h8, h9, h10, h11⟩, ⟨h5, h6, h2, h7⟩, ⟨oex, mro, h13, h14, h15, h16⟩, h17, h18⟩
def sepB (K : PySem.W.Frag) (cs : List Addr) : Bool := cs.all fun D => cs.all fun C => decide (PySem.W.kitOne K (.ref D) (.ref C) = some (decide (D = C)))
theorem sepB_ok {K : PySem.W.Frag} {cs : List Addr} (h : sepB K cs = true) : ∀ D, D ∈ cs → ∀ C, C ∈ cs → PySem.W.kitOne K (.ref D) (.ref C) = some (decide (D = C)) := fun D hD C hC => of_decide_eq_true (List.all_eq_true.mp (List.all_eq_true.mp h D hD) C hC)
def stB (K : PySem.W.Frag) (S M A N : Addr) : Bool := decide (PySem.W.subIn K (.ref S) (.type "BaseException") = some true) && (PySem.W.hasDictIn K S && (decide (PySem.W.typeIn K (.ref S) = some (.type "type")) &&
  (decide (PySem.W.subIn K (.ref M) (.ref N) = some false) && (decide (PySem.W.subIn K (.ref A) (.ref N) = some false) && (decide (PySem.W.subIn K (.ref M) (.ref S) = some true) && decide (PySem.W.subIn K (.ref A) (.ref S) = some true))))))
theorem stB_ok {K : PySem.W.Frag} {S M A N : Addr} (h : stB K S M A N = true) : PySem.W.subIn K (.ref S) (.type "BaseException") = some true ∧ PySem.W.hasDictIn K S = true ∧ PySem.W.typeIn K (.ref S) = some (.type "type") ∧ PySem.W.subIn K (.ref M) (.ref N) = some false ∧
    PySem.W.subIn K (.ref A) (.ref N) = some false ∧ PySem.W.subIn K (.ref M) (.ref S) = some true ∧ PySem.W.subIn K (.ref A) (.ref S) = some true := by
  unfold stB at h
  simpa only [Bool.and_eq_true, decide_eq_true_eq] using h
theorem all_mk {l : PySem.W.OpenLaw} {w : World} {K : PySem.W.Frag} {h : Heap} {mg : Str → Option Value} {fa : Addr} (X : K.In h) (G : h.Ns mainGlobals mg) (hfa : mg "law" = some (.ref fa))
    {f0 : Addr} {od0 an0 : Option Addr} {sl0 : Array (Option Value)} {oc0 kV0 dc0 pm0 cd0 ct0 : Value}
    {f1 : Addr} {od1 an1 : Option Addr} {sl1 : Array (Option Value)} {oc1 kV1 dc1 pm1 cd1 ct1 : Value}
    {f2 : Addr} {od2 an2 : Option Addr} {sl2 : Array (Option Value)} {oc2 kV2 dc2 pm2 cd2 ct2 : Value}
    {f3 : Addr} {od3 an3 : Option Addr} {sl3 : Array (Option Value)} {oc3 kV3 dc3 pm3 cd3 ct3 : Value}
    {f4 : Addr} {od4 an4 : Option Addr} {sl4 : Array (Option Value)} {oc4 kV4 dc4 pm4 cd4 ct4 : Value}
    {D4 : Addr} {tc4 : Value} {td4 : Option Addr} {tn4 : Nat} {tk4 : Tok} {ts4 : Array (Option Value)}
    {f5 : Addr} {od5 an5 : Option Addr} {sl5 : Array (Option Value)} {oc5 kV5 dc5 pm5 cd5 ct5 : Value}
    {f6 : Addr} {od6 an6 : Option Addr} {sl6 : Array (Option Value)} {oc6 kV6 dc6 pm6 cd6 ct6 : Value}
    {f7 : Addr} {od7 an7 : Option Addr} {sl7 : Array (Option Value)} {oc7 kV7 dc7 pm7 cd7 ct7 : Value}
    {f8 : Addr} {od8 an8 : Option Addr} {sl8 : Array (Option Value)} {oc8 kV8 dc8 pm8 cd8 ct8 : Value}
    {C_SaidError : Addr}
    {C_NoBook : Addr}
    {C_NoProgram : Addr}
    {C_NoText : Addr}
    {C_NoTree : Addr}
    {C_NoKind : Addr}
    {C_NoPlace : Addr}
    {C_TooMany : Addr}
    {C_AtEnd : Addr}
    {C_NoLine : Addr}
    {C_NoRow : Addr}
    {C_NoRun : Addr}
    {C_NoChange : Addr}
    {nm_NoBook qn_NoBook : Str} {Na_NoBook : Addr} {bs_NoBook bm_NoBook : List Value} {sn_NoBook : List Str} {sub_NoBook : List Value} {ab_NoBook : Bool} {col_NoBook : Option Bool} {dd_NoBook : Option Addr} {k0_NoBook k1_NoBook k2_NoBook k3_NoBook k5_NoBook : Option Value}
    {nm_NoProgram qn_NoProgram : Str} {Na_NoProgram : Addr} {bs_NoProgram bm_NoProgram : List Value} {sn_NoProgram : List Str} {sub_NoProgram : List Value} {ab_NoProgram : Bool} {col_NoProgram : Option Bool} {dd_NoProgram : Option Addr} {k0_NoProgram k1_NoProgram k2_NoProgram k3_NoProgram k5_NoProgram : Option Value}
    {nm_NoText qn_NoText : Str} {Na_NoText : Addr} {bs_NoText bm_NoText : List Value} {sn_NoText : List Str} {sub_NoText : List Value} {ab_NoText : Bool} {col_NoText : Option Bool} {dd_NoText : Option Addr} {k0_NoText k1_NoText k2_NoText k3_NoText k5_NoText : Option Value}
    {nm_NoTree qn_NoTree : Str} {Na_NoTree : Addr} {bs_NoTree bm_NoTree : List Value} {sn_NoTree : List Str} {sub_NoTree : List Value} {ab_NoTree : Bool} {col_NoTree : Option Bool} {dd_NoTree : Option Addr} {k0_NoTree k1_NoTree k2_NoTree k3_NoTree k5_NoTree : Option Value}
    {nm_NoKind qn_NoKind : Str} {Na_NoKind : Addr} {bs_NoKind bm_NoKind : List Value} {sn_NoKind : List Str} {sub_NoKind : List Value} {ab_NoKind : Bool} {col_NoKind : Option Bool} {dd_NoKind : Option Addr} {k0_NoKind k1_NoKind k2_NoKind k3_NoKind k5_NoKind : Option Value}
    {nm_NoPlace qn_NoPlace : Str} {Na_NoPlace : Addr} {bs_NoPlace bm_NoPlace : List Value} {sn_NoPlace : List Str} {sub_NoPlace : List Value} {ab_NoPlace : Bool} {col_NoPlace : Option Bool} {dd_NoPlace : Option Addr} {k0_NoPlace k1_NoPlace k2_NoPlace k3_NoPlace k5_NoPlace : Option Value}
    {nm_TooMany qn_TooMany : Str} {Na_TooMany : Addr} {bs_TooMany bm_TooMany : List Value} {sn_TooMany : List Str} {sub_TooMany : List Value} {ab_TooMany : Bool} {col_TooMany : Option Bool} {dd_TooMany : Option Addr} {k0_TooMany k1_TooMany k2_TooMany k3_TooMany k5_TooMany : Option Value}
    {nm_AtEnd qn_AtEnd : Str} {Na_AtEnd : Addr} {bs_AtEnd bm_AtEnd : List Value} {sn_AtEnd : List Str} {sub_AtEnd : List Value} {ab_AtEnd : Bool} {col_AtEnd : Option Bool} {dd_AtEnd : Option Addr} {k0_AtEnd k1_AtEnd k2_AtEnd k3_AtEnd k5_AtEnd : Option Value}
    {nm_NoLine qn_NoLine : Str} {Na_NoLine : Addr} {bs_NoLine bm_NoLine : List Value} {sn_NoLine : List Str} {sub_NoLine : List Value} {ab_NoLine : Bool} {col_NoLine : Option Bool} {dd_NoLine : Option Addr} {k0_NoLine k1_NoLine k2_NoLine k3_NoLine k5_NoLine : Option Value}
    {nm_NoRow qn_NoRow : Str} {Na_NoRow : Addr} {bs_NoRow bm_NoRow : List Value} {sn_NoRow : List Str} {sub_NoRow : List Value} {ab_NoRow : Bool} {col_NoRow : Option Bool} {dd_NoRow : Option Addr} {k0_NoRow k1_NoRow k2_NoRow k3_NoRow k5_NoRow : Option Value}
    {nm_NoRun qn_NoRun : Str} {Na_NoRun : Addr} {bs_NoRun bm_NoRun : List Value} {sn_NoRun : List Str} {sub_NoRun : List Value} {ab_NoRun : Bool} {col_NoRun : Option Bool} {dd_NoRun : Option Addr} {k0_NoRun k1_NoRun k2_NoRun k3_NoRun k5_NoRun : Option Value}
    {nm_NoChange qn_NoChange : Str} {Na_NoChange : Addr} {bs_NoChange bm_NoChange : List Value} {sn_NoChange : List Str} {sub_NoChange : List Value} {ab_NoChange : Bool} {col_NoChange : Option Bool} {dd_NoChange : Option Addr} {k0_NoChange k1_NoChange k2_NoChange k3_NoChange k5_NoChange : Option Value}
    {fi_NoBook cc_NoBook co_NoBook : Addr} {oc_NoBook kV_NoBook dc_NoBook pm_NoBook ct_NoBook o2_NoBook oq_NoBook : Value} {od_NoBook an_NoBook ol_NoBook oe_NoBook : Option Addr} {os_NoBook sl_NoBook sc_NoBook : Array (Option Value)} {vs_NoBook : Array Value} {fl_NoBook : Str} {tf_NoBook : Tok}
    {fi_NoProgram cc_NoProgram co_NoProgram : Addr} {oc_NoProgram kV_NoProgram dc_NoProgram pm_NoProgram ct_NoProgram o2_NoProgram oq_NoProgram : Value} {od_NoProgram an_NoProgram ol_NoProgram oe_NoProgram : Option Addr} {os_NoProgram sl_NoProgram sc_NoProgram : Array (Option Value)} {vs_NoProgram : Array Value} {fl_NoProgram : Str} {tf_NoProgram : Tok}
    {fi_NoText cc_NoText co_NoText : Addr} {oc_NoText kV_NoText dc_NoText pm_NoText ct_NoText o2_NoText oq_NoText : Value} {od_NoText an_NoText ol_NoText oe_NoText : Option Addr} {os_NoText sl_NoText sc_NoText : Array (Option Value)} {vs_NoText : Array Value} {fl_NoText : Str} {tf_NoText : Tok}
    {fi_NoTree cc_NoTree co_NoTree : Addr} {oc_NoTree kV_NoTree dc_NoTree pm_NoTree ct_NoTree o2_NoTree oq_NoTree : Value} {od_NoTree an_NoTree ol_NoTree oe_NoTree : Option Addr} {os_NoTree sl_NoTree sc_NoTree : Array (Option Value)} {vs_NoTree : Array Value} {fl_NoTree : Str} {tf_NoTree : Tok}
    {fi_NoKind cc_NoKind co_NoKind : Addr} {oc_NoKind kV_NoKind dc_NoKind pm_NoKind ct_NoKind o2_NoKind oq_NoKind : Value} {od_NoKind an_NoKind ol_NoKind oe_NoKind : Option Addr} {os_NoKind sl_NoKind sc_NoKind : Array (Option Value)} {vs_NoKind : Array Value} {fl_NoKind : Str} {tf_NoKind : Tok}
    {fi_NoPlace cc_NoPlace co_NoPlace : Addr} {oc_NoPlace kV_NoPlace dc_NoPlace pm_NoPlace ct_NoPlace o2_NoPlace oq_NoPlace : Value} {od_NoPlace an_NoPlace ol_NoPlace oe_NoPlace : Option Addr} {os_NoPlace sl_NoPlace sc_NoPlace : Array (Option Value)} {vs_NoPlace : Array Value} {fl_NoPlace : Str} {tf_NoPlace : Tok}
    {fi_TooMany cc_TooMany co_TooMany : Addr} {oc_TooMany kV_TooMany dc_TooMany pm_TooMany ct_TooMany o2_TooMany oq_TooMany : Value} {od_TooMany an_TooMany ol_TooMany oe_TooMany : Option Addr} {os_TooMany sl_TooMany sc_TooMany : Array (Option Value)} {vs_TooMany : Array Value} {fl_TooMany : Str} {tf_TooMany : Tok}
    (a0 : PySem.W.nsIn K mainGlobals "_law_feed_of" = some (some (.ref f0))) (l0 : K.lookup f0 = some ⟨oc0, od0, .func (PySem.W.fnOf "_law_feed_of" "_law_feed_of" (defArgs s__law_feed_of) (defBody s__law_feed_of) (defScope s__law_feed_of) .none kV0 dc0 pm0 an0 cd0 ct0), sl0⟩) (c0 : PySem.W.codeIn K cd0 "_law_feed_of" = true) (k0 : PySem.W.keepIn K (.ref f0) = true)
    (a1 : PySem.W.nsIn K mainGlobals "_law_draw" = some (some (.ref f1))) (l1 : K.lookup f1 = some ⟨oc1, od1, .func (PySem.W.fnOf "_law_draw" "_law_draw" (defArgs s__law_draw) (defBody s__law_draw) (defScope s__law_draw) .none kV1 dc1 pm1 an1 cd1 ct1), sl1⟩) (c1 : PySem.W.codeIn K cd1 "_law_draw" = true) (k1 : PySem.W.keepIn K (.ref f1) = true)
    (a2 : PySem.W.nsIn K mainGlobals "_law_pick" = some (some (.ref f2))) (l2 : K.lookup f2 = some ⟨oc2, od2, .func (PySem.W.fnOf "_law_pick" "_law_pick" (defArgs s__law_pick) (defBody s__law_pick) (defScope s__law_pick) .none kV2 dc2 pm2 an2 cd2 ct2), sl2⟩) (c2 : PySem.W.codeIn K cd2 "_law_pick" = true) (k2 : PySem.W.keepIn K (.ref f2) = true)
    (a3 : PySem.W.nsIn K mainGlobals "_law_same" = some (some (.ref f3))) (l3 : K.lookup f3 = some ⟨oc3, od3, .func (PySem.W.fnOf "_law_same" "_law_same" (defArgs s__law_same) (defBody s__law_same) (defScope s__law_same) .none kV3 dc3 pm3 an3 cd3 ct3), sl3⟩) (c3 : PySem.W.codeIn K cd3 "_law_same" = true) (k3 : PySem.W.keepIn K (.ref f3) = true)
    (a4 : PySem.W.nsIn K mainGlobals "_law_any_value" = some (some (.ref f4))) (l4 : K.lookup f4 = some ⟨oc4, od4, .func (PySem.W.fnOf "_law_any_value" "_law_any_value" (defArgs s__law_any_value) (defBody s__law_any_value) (defScope s__law_any_value) (.ref D4) kV4 dc4 pm4 an4 cd4 ct4), sl4⟩) (c4 : PySem.W.codeIn K cd4 "_law_any_value" = true) (k4 : PySem.W.keepIn K (.ref f4) = true)
    (m4 : K.lookup D4 = some ⟨tc4, td4, .seq #[.int 3 tk4] tn4, ts4⟩)
    (a5 : PySem.W.nsIn K mainGlobals "_law_made" = some (some (.ref f5))) (l5 : K.lookup f5 = some ⟨oc5, od5, .func (PySem.W.fnOf "_law_made" "_law_made" (defArgs s__law_made) (defBody s__law_made) (defScope s__law_made) .none kV5 dc5 pm5 an5 cd5 ct5), sl5⟩) (c5 : PySem.W.codeIn K cd5 "_law_made" = true) (k5 : PySem.W.keepIn K (.ref f5) = true)
    (a6 : PySem.W.nsIn K mainGlobals "_law_sorts" = some (some (.ref f6))) (l6 : K.lookup f6 = some ⟨oc6, od6, .func (PySem.W.fnOf "_law_sorts" "_law_sorts" (defArgs s__law_sorts) (defBody s__law_sorts) (defScope s__law_sorts) .none kV6 dc6 pm6 an6 cd6 ct6), sl6⟩) (c6 : PySem.W.codeIn K cd6 "_law_sorts" = true) (k6 : PySem.W.keepIn K (.ref f6) = true)
    (a7 : PySem.W.nsIn K mainGlobals "_law_raised" = some (some (.ref f7))) (l7 : K.lookup f7 = some ⟨oc7, od7, .func (PySem.W.fnOf "_law_raised" "_law_raised" (defArgs s__law_raised) (defBody s__law_raised) (defScope s__law_raised) .none kV7 dc7 pm7 an7 cd7 ct7), sl7⟩) (c7 : PySem.W.codeIn K cd7 "_law_raised" = true) (k7 : PySem.W.keepIn K (.ref f7) = true)
    (a8 : PySem.W.nsIn K mainGlobals "law" = some (some (.ref f8))) (l8 : K.lookup f8 = some ⟨oc8, od8, .func (PySem.W.fnOf "law" "law" (defArgs s_law) (defBody s_law) (defScope s_law) .none kV8 dc8 pm8 an8 cd8 ct8), sl8⟩) (c8 : PySem.W.codeIn K cd8 "law" = true) (k8 : PySem.W.keepIn K (.ref f8) = true)
    (z_len : PySem.W.nsIn K mainGlobals "len" = some none)
    (z_isinstance : PySem.W.nsIn K mainGlobals "isinstance" = some none)
    (z_bool : PySem.W.nsIn K mainGlobals "bool" = some none)
    (z_tuple : PySem.W.nsIn K mainGlobals "tuple" = some none)
    (z_list : PySem.W.nsIn K mainGlobals "list" = some none)
    (z_range : PySem.W.nsIn K mainGlobals "range" = some none)
    (z_all : PySem.W.nsIn K mainGlobals "all" = some none)
    (z_zip : PySem.W.nsIn K mainGlobals "zip" = some none)
    (z_max : PySem.W.nsIn K mainGlobals "max" = some none)
    (z_min : PySem.W.nsIn K mainGlobals "min" = some none)
    (z_enumerate : PySem.W.nsIn K mainGlobals "enumerate" = some none)
    (z_ValueError : PySem.W.nsIn K mainGlobals "ValueError" = some none)
    (z_super : PySem.W.nsIn K mainGlobals "super" = some none)
    (g_SaidError : PySem.W.nsIn K mainGlobals "SaidError" = some (some (.ref C_SaidError)))
    (g_NoBook : PySem.W.nsIn K mainGlobals "NoBook" = some (some (.ref C_NoBook)))
    (g_NoProgram : PySem.W.nsIn K mainGlobals "NoProgram" = some (some (.ref C_NoProgram)))
    (g_NoText : PySem.W.nsIn K mainGlobals "NoText" = some (some (.ref C_NoText)))
    (g_NoTree : PySem.W.nsIn K mainGlobals "NoTree" = some (some (.ref C_NoTree)))
    (g_NoKind : PySem.W.nsIn K mainGlobals "NoKind" = some (some (.ref C_NoKind)))
    (g_NoPlace : PySem.W.nsIn K mainGlobals "NoPlace" = some (some (.ref C_NoPlace)))
    (g_TooMany : PySem.W.nsIn K mainGlobals "TooMany" = some (some (.ref C_TooMany)))
    (g_AtEnd : PySem.W.nsIn K mainGlobals "AtEnd" = some (some (.ref C_AtEnd)))
    (g_NoLine : PySem.W.nsIn K mainGlobals "NoLine" = some (some (.ref C_NoLine)))
    (g_NoRow : PySem.W.nsIn K mainGlobals "NoRow" = some (some (.ref C_NoRow)))
    (g_NoRun : PySem.W.nsIn K mainGlobals "NoRun" = some (some (.ref C_NoRun)))
    (g_NoChange : PySem.W.nsIn K mainGlobals "NoChange" = some (some (.ref C_NoChange)))
    (o_NoBook : K.lookup C_NoBook = some (excClassObj nm_NoBook qn_NoBook C_NoBook Na_NoBook bs_NoBook bm_NoBook true sn_NoBook sub_NoBook ab_NoBook col_NoBook dd_NoBook k0_NoBook k1_NoBook k2_NoBook k3_NoBook k5_NoBook "ValueError.__new__"))
    (v_NoBook : PySem.HandSPX.refsVE bm_NoBook = true)
    (w_NoBook : clB K C_NoBook C_SaidError = true)
    (o_NoProgram : K.lookup C_NoProgram = some (excClassObj nm_NoProgram qn_NoProgram C_NoProgram Na_NoProgram bs_NoProgram bm_NoProgram true sn_NoProgram sub_NoProgram ab_NoProgram col_NoProgram dd_NoProgram k0_NoProgram k1_NoProgram k2_NoProgram k3_NoProgram k5_NoProgram "ValueError.__new__"))
    (v_NoProgram : PySem.HandSPX.refsVE bm_NoProgram = true)
    (w_NoProgram : clB K C_NoProgram C_SaidError = true)
    (o_NoText : K.lookup C_NoText = some (excClassObj nm_NoText qn_NoText C_NoText Na_NoText bs_NoText bm_NoText true sn_NoText sub_NoText ab_NoText col_NoText dd_NoText k0_NoText k1_NoText k2_NoText k3_NoText k5_NoText "ValueError.__new__"))
    (v_NoText : PySem.HandSPX.refsVE bm_NoText = true)
    (w_NoText : clB K C_NoText C_SaidError = true)
    (o_NoTree : K.lookup C_NoTree = some (excClassObj nm_NoTree qn_NoTree C_NoTree Na_NoTree bs_NoTree bm_NoTree true sn_NoTree sub_NoTree ab_NoTree col_NoTree dd_NoTree k0_NoTree k1_NoTree k2_NoTree k3_NoTree k5_NoTree "ValueError.__new__"))
    (v_NoTree : PySem.HandSPX.refsVE bm_NoTree = true)
    (w_NoTree : clB K C_NoTree C_SaidError = true)
    (o_NoKind : K.lookup C_NoKind = some (excClassObj nm_NoKind qn_NoKind C_NoKind Na_NoKind bs_NoKind bm_NoKind true sn_NoKind sub_NoKind ab_NoKind col_NoKind dd_NoKind k0_NoKind k1_NoKind k2_NoKind k3_NoKind k5_NoKind "ValueError.__new__"))
    (v_NoKind : PySem.HandSPX.refsVE bm_NoKind = true)
    (w_NoKind : clB K C_NoKind C_SaidError = true)
    (o_NoPlace : K.lookup C_NoPlace = some (excClassObj nm_NoPlace qn_NoPlace C_NoPlace Na_NoPlace bs_NoPlace bm_NoPlace true sn_NoPlace sub_NoPlace ab_NoPlace col_NoPlace dd_NoPlace k0_NoPlace k1_NoPlace k2_NoPlace k3_NoPlace k5_NoPlace "ValueError.__new__"))
    (v_NoPlace : PySem.HandSPX.refsVE bm_NoPlace = true)
    (w_NoPlace : clB K C_NoPlace C_SaidError = true)
    (o_TooMany : K.lookup C_TooMany = some (excClassObj nm_TooMany qn_TooMany C_TooMany Na_TooMany bs_TooMany bm_TooMany true sn_TooMany sub_TooMany ab_TooMany col_TooMany dd_TooMany k0_TooMany k1_TooMany k2_TooMany k3_TooMany k5_TooMany "ValueError.__new__"))
    (v_TooMany : PySem.HandSPX.refsVE bm_TooMany = true)
    (w_TooMany : clB K C_TooMany C_SaidError = true)
    (o_AtEnd : K.lookup C_AtEnd = some (excClassObj nm_AtEnd qn_AtEnd C_AtEnd Na_AtEnd bs_AtEnd bm_AtEnd true sn_AtEnd sub_AtEnd ab_AtEnd col_AtEnd dd_AtEnd k0_AtEnd k1_AtEnd k2_AtEnd k3_AtEnd k5_AtEnd "ValueError.__new__"))
    (v_AtEnd : PySem.HandSPX.refsVE bm_AtEnd = true)
    (w_AtEnd : clB K C_AtEnd C_SaidError = true)
    (o_NoLine : K.lookup C_NoLine = some (excClassObj nm_NoLine qn_NoLine C_NoLine Na_NoLine bs_NoLine bm_NoLine true sn_NoLine sub_NoLine ab_NoLine col_NoLine dd_NoLine k0_NoLine k1_NoLine k2_NoLine k3_NoLine k5_NoLine "ValueError.__new__"))
    (v_NoLine : PySem.HandSPX.refsVE bm_NoLine = true)
    (w_NoLine : clB K C_NoLine C_SaidError = true)
    (o_NoRow : K.lookup C_NoRow = some (excClassObj nm_NoRow qn_NoRow C_NoRow Na_NoRow bs_NoRow bm_NoRow true sn_NoRow sub_NoRow ab_NoRow col_NoRow dd_NoRow k0_NoRow k1_NoRow k2_NoRow k3_NoRow k5_NoRow "ValueError.__new__"))
    (v_NoRow : PySem.HandSPX.refsVE bm_NoRow = true)
    (w_NoRow : clB K C_NoRow C_SaidError = true)
    (o_NoRun : K.lookup C_NoRun = some (excClassObj nm_NoRun qn_NoRun C_NoRun Na_NoRun bs_NoRun bm_NoRun true sn_NoRun sub_NoRun ab_NoRun col_NoRun dd_NoRun k0_NoRun k1_NoRun k2_NoRun k3_NoRun k5_NoRun "ValueError.__new__"))
    (v_NoRun : PySem.HandSPX.refsVE bm_NoRun = true)
    (w_NoRun : clB K C_NoRun C_SaidError = true)
    (o_NoChange : K.lookup C_NoChange = some (excClassObj nm_NoChange qn_NoChange C_NoChange Na_NoChange bs_NoChange bm_NoChange true sn_NoChange sub_NoChange ab_NoChange col_NoChange dd_NoChange k0_NoChange k1_NoChange k2_NoChange k3_NoChange k5_NoChange "ValueError.__new__"))
    (v_NoChange : PySem.HandSPX.refsVE bm_NoChange = true)
    (w_NoChange : clB K C_NoChange C_SaidError = true)
    (sepA : sepB K [C_NoBook, C_NoProgram, C_NoText, C_NoTree, C_NoKind, C_NoPlace, C_TooMany, C_AtEnd, C_NoLine, C_NoRow, C_NoRun, C_NoChange] = true)
    (ndA : decide ([C_NoBook, C_NoProgram, C_NoText, C_NoTree, C_NoKind, C_NoPlace, C_TooMany, C_AtEnd, C_NoLine, C_NoRow, C_NoRun, C_NoChange] : List Addr).Nodup = true)
    (sB : stB K C_SaidError C_TooMany C_AtEnd C_NoTree = true)
    (fSup : (l.prog.main.scope.names.lookup ("super" : Str)).isSome = false)
    (i_NoBook : PySem.W.findIn K (.ref C_NoBook) "__init__" = some (some (.ref fi_NoBook)))
    (t_NoBook : PySem.W.typeIn K (.ref fi_NoBook) = some (.type "function"))
    (l_NoBook : K.lookup fi_NoBook = some ⟨oc_NoBook, od_NoBook, .func (PySem.W.fnX "__init__" "NoBook.__init__" (defArgs s_NoBook) (defBody s_NoBook) (defScope s_NoBook) [("__class__", cc_NoBook)] .none kV_NoBook dc_NoBook pm_NoBook an_NoBook (.ref co_NoBook) ct_NoBook), os_NoBook⟩)
    (d_NoBook : PySem.W.codeIn K (.ref co_NoBook) "NoBook.__init__" = true)
    (e_NoBook : K.lookup cc_NoBook = some ⟨o2_NoBook, ol_NoBook, .cell (some (.ref C_NoBook)), sl_NoBook⟩)
    (q_NoBook : K.lookup co_NoBook = some ⟨oq_NoBook, oe_NoBook, .fields vs_NoBook, sc_NoBook⟩)
    (h_NoBook : vs_NoBook[2]? = some (.str fl_NoBook tf_NoBook))
    (p_NoBook : ((l.prog.main.file : Str) == fl_NoBook) = true)
    (n_NoBook_row : PySem.W.findIn K (.ref C_NoBook) "row" = some none)
    (n_NoBook_why : PySem.W.findIn K (.ref C_NoBook) "why" = some none)
    (i_NoProgram : PySem.W.findIn K (.ref C_NoProgram) "__init__" = some (some (.ref fi_NoProgram)))
    (t_NoProgram : PySem.W.typeIn K (.ref fi_NoProgram) = some (.type "function"))
    (l_NoProgram : K.lookup fi_NoProgram = some ⟨oc_NoProgram, od_NoProgram, .func (PySem.W.fnX "__init__" "NoProgram.__init__" (defArgs s_NoProgram) (defBody s_NoProgram) (defScope s_NoProgram) [("__class__", cc_NoProgram)] .none kV_NoProgram dc_NoProgram pm_NoProgram an_NoProgram (.ref co_NoProgram) ct_NoProgram), os_NoProgram⟩)
    (d_NoProgram : PySem.W.codeIn K (.ref co_NoProgram) "NoProgram.__init__" = true)
    (e_NoProgram : K.lookup cc_NoProgram = some ⟨o2_NoProgram, ol_NoProgram, .cell (some (.ref C_NoProgram)), sl_NoProgram⟩)
    (q_NoProgram : K.lookup co_NoProgram = some ⟨oq_NoProgram, oe_NoProgram, .fields vs_NoProgram, sc_NoProgram⟩)
    (h_NoProgram : vs_NoProgram[2]? = some (.str fl_NoProgram tf_NoProgram))
    (p_NoProgram : ((l.prog.main.file : Str) == fl_NoProgram) = true)
    (n_NoProgram_row : PySem.W.findIn K (.ref C_NoProgram) "row" = some none)
    (n_NoProgram_why : PySem.W.findIn K (.ref C_NoProgram) "why" = some none)
    (i_NoText : PySem.W.findIn K (.ref C_NoText) "__init__" = some (some (.ref fi_NoText)))
    (t_NoText : PySem.W.typeIn K (.ref fi_NoText) = some (.type "function"))
    (l_NoText : K.lookup fi_NoText = some ⟨oc_NoText, od_NoText, .func (PySem.W.fnX "__init__" "NoText.__init__" (defArgs s_NoText) (defBody s_NoText) (defScope s_NoText) [("__class__", cc_NoText)] .none kV_NoText dc_NoText pm_NoText an_NoText (.ref co_NoText) ct_NoText), os_NoText⟩)
    (d_NoText : PySem.W.codeIn K (.ref co_NoText) "NoText.__init__" = true)
    (e_NoText : K.lookup cc_NoText = some ⟨o2_NoText, ol_NoText, .cell (some (.ref C_NoText)), sl_NoText⟩)
    (q_NoText : K.lookup co_NoText = some ⟨oq_NoText, oe_NoText, .fields vs_NoText, sc_NoText⟩)
    (h_NoText : vs_NoText[2]? = some (.str fl_NoText tf_NoText))
    (p_NoText : ((l.prog.main.file : Str) == fl_NoText) = true)
    (n_NoText_at : PySem.W.findIn K (.ref C_NoText) "at" = some none)
    (i_NoTree : PySem.W.findIn K (.ref C_NoTree) "__init__" = some (some (.ref fi_NoTree)))
    (t_NoTree : PySem.W.typeIn K (.ref fi_NoTree) = some (.type "function"))
    (l_NoTree : K.lookup fi_NoTree = some ⟨oc_NoTree, od_NoTree, .func (PySem.W.fnX "__init__" "NoTree.__init__" (defArgs s_NoTree) (defBody s_NoTree) (defScope s_NoTree) [("__class__", cc_NoTree)] .none kV_NoTree dc_NoTree pm_NoTree an_NoTree (.ref co_NoTree) ct_NoTree), os_NoTree⟩)
    (d_NoTree : PySem.W.codeIn K (.ref co_NoTree) "NoTree.__init__" = true)
    (e_NoTree : K.lookup cc_NoTree = some ⟨o2_NoTree, ol_NoTree, .cell (some (.ref C_NoTree)), sl_NoTree⟩)
    (q_NoTree : K.lookup co_NoTree = some ⟨oq_NoTree, oe_NoTree, .fields vs_NoTree, sc_NoTree⟩)
    (h_NoTree : vs_NoTree[2]? = some (.str fl_NoTree tf_NoTree))
    (p_NoTree : ((l.prog.main.file : Str) == fl_NoTree) = true)
    (n_NoTree_path : PySem.W.findIn K (.ref C_NoTree) "path" = some none)
    (i_NoKind : PySem.W.findIn K (.ref C_NoKind) "__init__" = some (some (.ref fi_NoKind)))
    (t_NoKind : PySem.W.typeIn K (.ref fi_NoKind) = some (.type "function"))
    (l_NoKind : K.lookup fi_NoKind = some ⟨oc_NoKind, od_NoKind, .func (PySem.W.fnX "__init__" "NoKind.__init__" (defArgs s_NoKind) (defBody s_NoKind) (defScope s_NoKind) [("__class__", cc_NoKind)] .none kV_NoKind dc_NoKind pm_NoKind an_NoKind (.ref co_NoKind) ct_NoKind), os_NoKind⟩)
    (d_NoKind : PySem.W.codeIn K (.ref co_NoKind) "NoKind.__init__" = true)
    (e_NoKind : K.lookup cc_NoKind = some ⟨o2_NoKind, ol_NoKind, .cell (some (.ref C_NoKind)), sl_NoKind⟩)
    (q_NoKind : K.lookup co_NoKind = some ⟨oq_NoKind, oe_NoKind, .fields vs_NoKind, sc_NoKind⟩)
    (h_NoKind : vs_NoKind[2]? = some (.str fl_NoKind tf_NoKind))
    (p_NoKind : ((l.prog.main.file : Str) == fl_NoKind) = true)
    (n_NoKind_path : PySem.W.findIn K (.ref C_NoKind) "path" = some none)
    (i_NoPlace : PySem.W.findIn K (.ref C_NoPlace) "__init__" = some (some (.ref fi_NoPlace)))
    (t_NoPlace : PySem.W.typeIn K (.ref fi_NoPlace) = some (.type "function"))
    (l_NoPlace : K.lookup fi_NoPlace = some ⟨oc_NoPlace, od_NoPlace, .func (PySem.W.fnX "__init__" "NoPlace.__init__" (defArgs s_NoPlace) (defBody s_NoPlace) (defScope s_NoPlace) [("__class__", cc_NoPlace)] .none kV_NoPlace dc_NoPlace pm_NoPlace an_NoPlace (.ref co_NoPlace) ct_NoPlace), os_NoPlace⟩)
    (d_NoPlace : PySem.W.codeIn K (.ref co_NoPlace) "NoPlace.__init__" = true)
    (e_NoPlace : K.lookup cc_NoPlace = some ⟨o2_NoPlace, ol_NoPlace, .cell (some (.ref C_NoPlace)), sl_NoPlace⟩)
    (q_NoPlace : K.lookup co_NoPlace = some ⟨oq_NoPlace, oe_NoPlace, .fields vs_NoPlace, sc_NoPlace⟩)
    (h_NoPlace : vs_NoPlace[2]? = some (.str fl_NoPlace tf_NoPlace))
    (p_NoPlace : ((l.prog.main.file : Str) == fl_NoPlace) = true)
    (n_NoPlace_path : PySem.W.findIn K (.ref C_NoPlace) "path" = some none)
    (i_TooMany : PySem.W.findIn K (.ref C_TooMany) "__init__" = some (some (.ref fi_TooMany)))
    (t_TooMany : PySem.W.typeIn K (.ref fi_TooMany) = some (.type "function"))
    (l_TooMany : K.lookup fi_TooMany = some ⟨oc_TooMany, od_TooMany, .func (PySem.W.fnX "__init__" "TooMany.__init__" (defArgs s_TooMany) (defBody s_TooMany) (defScope s_TooMany) [("__class__", cc_TooMany)] .none kV_TooMany dc_TooMany pm_TooMany an_TooMany (.ref co_TooMany) ct_TooMany), os_TooMany⟩)
    (d_TooMany : PySem.W.codeIn K (.ref co_TooMany) "TooMany.__init__" = true)
    (e_TooMany : K.lookup cc_TooMany = some ⟨o2_TooMany, ol_TooMany, .cell (some (.ref C_TooMany)), sl_TooMany⟩)
    (q_TooMany : K.lookup co_TooMany = some ⟨oq_TooMany, oe_TooMany, .fields vs_TooMany, sc_TooMany⟩)
    (h_TooMany : vs_TooMany[2]? = some (.str fl_TooMany tf_TooMany))
    (p_TooMany : ((l.prog.main.file : Str) == fl_TooMany) = true)
    (n_TooMany_most : PySem.W.findIn K (.ref C_TooMany) "most" = some none)
    (i_AtEnd : PySem.W.findIn K (.ref C_AtEnd) "__init__" = some (some (.builtin "ValueError.__init__")))
    (i_NoLine : PySem.W.findIn K (.ref C_NoLine) "__init__" = some (some (.builtin "ValueError.__init__")))
    (i_NoRow : PySem.W.findIn K (.ref C_NoRow) "__init__" = some (some (.builtin "ValueError.__init__")))
    (i_NoRun : PySem.W.findIn K (.ref C_NoRun) "__init__" = some (some (.builtin "ValueError.__init__")))
    (i_NoChange : PySem.W.findIn K (.ref C_NoChange) "__init__" = some (some (.builtin "ValueError.__init__"))) :
    ∃ fd : FuncData, (∀ (s : Shared) (v : Value), BindsTo s fd ⟨[v], []⟩ [("_law_script", v)]) ∧ ∀ base : Heap, K.In base → base.Ns mainGlobals mg → FnOk l.prog w K mg base CX0 9 fa fd ["_law_script"] (spLaw K) := by
  have e := hfa.symm.trans (PySem.W.mg_of X G a8)
  cases e
  have F0 := fun_mk (st := s__law_feed_of) l0 c0 k0
  have b0 := F0.binds (ps := ["_law_script", "_law_k"]) fun _ _ _ _ _ _ us hl => match us, hl with | [_, _], _ => rfl
  have F1 := fun_mk (st := s__law_draw) l1 c1 k1
  have b1 := F1.binds (ps := ["_law_feed", "_law_many"]) fun _ _ _ _ _ _ us hl => match us, hl with | [_, _], _ => rfl
  have F2 := fun_mk (st := s__law_pick) l2 c2 k2
  have b2 := F2.binds (ps := ["_law_feed", "_law_items"]) fun _ _ _ _ _ _ us hl => match us, hl with | [_, _], _ => rfl
  have F3 := fun_mk (st := s__law_same) l3 c3 k3
  have b3 := F3.binds (ps := ["_law_found", "_law_due"]) fun _ _ _ _ _ _ us hl => match us, hl with | [_, _], _ => rfl
  have F4 : FunD K "_law_any_value" "_law_any_value" (defArgs s__law_any_value) (defBody s__law_any_value) (defScope s__law_any_value) [.int 3] [] f4 (PySem.W.fnOf "_law_any_value" "_law_any_value" (defArgs s__law_any_value) (defBody s__law_any_value) (defScope s__law_any_value) (.ref D4) kV4 dc4 pm4 an4 cd4 ct4) := ⟨⟨oc4, od4, _, kV4, dc4, pm4, an4, cd4, ct4, sl4, rfl, l4, c4, .inr ⟨(fun z => by cases z), D4, _, [.int 3 tk4], tn4, rfl, m4, rfl, .cons ⟨tk4, rfl⟩ .nil⟩, .inl rfl⟩, k4⟩
  obtain ⟨ds4_0, v4_0, b4_0⟩ := F4.binds1 (ps := ["_law_feed", "_law_deep"]) 2 1 (fun z => by cases z) rfl (fun T kV doc pm an cdv ct us its hl hi => match us, its, hl, hi with | [_, _], [_], _, _ => ⟨_, rfl, rfl⟩)
  obtain ⟨ds4_1, v4_1, b4_1⟩ := F4.binds1 (ps := ["_law_feed", "_law_deep"]) 1 0 (fun z => by cases z) rfl (fun T kV doc pm an cdv ct us its hl hi => match us, its, hl, hi with | [_], [_], _, _ => ⟨_, rfl, rfl⟩)
  have F5 := fun_mk (st := s__law_made) l5 c5 k5
  have b5 := F5.binds (ps := ["_law_a", "_law_b"]) fun _ _ _ _ _ _ us hl => match us, hl with | [_, _], _ => rfl
  have F6 := fun_mk (st := s__law_sorts) l6 c6 k6
  have b6 := F6.binds (ps := ["_law_e"]) fun _ _ _ _ _ _ us hl => match us, hl with | [_], _ => rfl
  have F7 := fun_mk (st := s__law_raised) l7 c7 k7
  have b7 := F7.binds (ps := ["_law_form", "_law_a"]) fun _ _ _ _ _ _ us hl => match us, hl with | [_, _], _ => rfl
  have F8 := fun_mk (st := s_law) l8 c8 k8
  have b8 := F8.binds (ps := ["_law_script"]) fun _ _ _ _ _ _ us hl => match us, hl with | [_], _ => rfl
  have X_NoBook : XCls K C_NoBook C_SaidError := mkX ⟨_, _, _, _, _, _, _, _, _, _, _, _, _, _, _, o_NoBook, v_NoBook⟩ w_NoBook
  have X_NoProgram : XCls K C_NoProgram C_SaidError := mkX ⟨_, _, _, _, _, _, _, _, _, _, _, _, _, _, _, o_NoProgram, v_NoProgram⟩ w_NoProgram
  have X_NoText : XCls K C_NoText C_SaidError := mkX ⟨_, _, _, _, _, _, _, _, _, _, _, _, _, _, _, o_NoText, v_NoText⟩ w_NoText
  have X_NoTree : XCls K C_NoTree C_SaidError := mkX ⟨_, _, _, _, _, _, _, _, _, _, _, _, _, _, _, o_NoTree, v_NoTree⟩ w_NoTree
  have X_NoKind : XCls K C_NoKind C_SaidError := mkX ⟨_, _, _, _, _, _, _, _, _, _, _, _, _, _, _, o_NoKind, v_NoKind⟩ w_NoKind
  have X_NoPlace : XCls K C_NoPlace C_SaidError := mkX ⟨_, _, _, _, _, _, _, _, _, _, _, _, _, _, _, o_NoPlace, v_NoPlace⟩ w_NoPlace
  have X_TooMany : XCls K C_TooMany C_SaidError := mkX ⟨_, _, _, _, _, _, _, _, _, _, _, _, _, _, _, o_TooMany, v_TooMany⟩ w_TooMany
  have X_AtEnd : XCls K C_AtEnd C_SaidError := mkX ⟨_, _, _, _, _, _, _, _, _, _, _, _, _, _, _, o_AtEnd, v_AtEnd⟩ w_AtEnd
  have X_NoLine : XCls K C_NoLine C_SaidError := mkX ⟨_, _, _, _, _, _, _, _, _, _, _, _, _, _, _, o_NoLine, v_NoLine⟩ w_NoLine
  have X_NoRow : XCls K C_NoRow C_SaidError := mkX ⟨_, _, _, _, _, _, _, _, _, _, _, _, _, _, _, o_NoRow, v_NoRow⟩ w_NoRow
  have X_NoRun : XCls K C_NoRun C_SaidError := mkX ⟨_, _, _, _, _, _, _, _, _, _, _, _, _, _, _, o_NoRun, v_NoRun⟩ w_NoRun
  have X_NoChange : XCls K C_NoChange C_SaidError := mkX ⟨_, _, _, _, _, _, _, _, _, _, _, _, _, _, _, o_NoChange, v_NoChange⟩ w_NoChange
  obtain ⟨st1, st2, st3, st4, st5, st6, st7⟩ := stB_ok sB
  have B_NoBook : KBn K (PySem.W.fnX "__init__" "NoBook.__init__" (defArgs s_NoBook) (defBody s_NoBook) (defScope s_NoBook) [("__class__", cc_NoBook)] .none kV_NoBook dc_NoBook pm_NoBook an_NoBook (.ref co_NoBook) ct_NoBook) ["self", "row", "why"] 3 [] (fun us ws => us ++ ws) (fun vs zs => vs ++ zs) := ⟨fun s us ws _ h1 h2 => match us, ws, h1, h2 with | [_, _, _], [], _, _ => .of_eq rfl, fun r rz => r.append rz⟩
  have I_NoBook : IniF l.prog K mg s_NoBook "NoBook.__init__" C_NoBook fi_NoBook (PySem.W.fnX "__init__" "NoBook.__init__" (defArgs s_NoBook) (defBody s_NoBook) (defScope s_NoBook) [("__class__", cc_NoBook)] .none kV_NoBook dc_NoBook pm_NoBook an_NoBook (.ref co_NoBook) ct_NoBook) := ⟨⟨cc_NoBook, co_NoBook, oc_NoBook, kV_NoBook, dc_NoBook, pm_NoBook, ct_NoBook, o2_NoBook, oq_NoBook, od_NoBook, an_NoBook, ol_NoBook, oe_NoBook, os_NoBook, sl_NoBook, sc_NoBook, vs_NoBook, fl_NoBook, tf_NoBook, rfl, l_NoBook, d_NoBook, e_NoBook, q_NoBook, h_NoBook, p_NoBook, fSup, PySem.W.mg_none_of X G z_super⟩⟩
  have B_NoProgram : KBn K (PySem.W.fnX "__init__" "NoProgram.__init__" (defArgs s_NoProgram) (defBody s_NoProgram) (defScope s_NoProgram) [("__class__", cc_NoProgram)] .none kV_NoProgram dc_NoProgram pm_NoProgram an_NoProgram (.ref co_NoProgram) ct_NoProgram) ["self", "row", "why"] 2 ["why"] (fun us ws => us ++ ws) (fun vs zs => vs ++ zs) := ⟨fun s us ws _ h1 h2 => match us, ws, h1, h2 with | [_, _], [_], _, _ => .of_eq rfl, fun r rz => r.append rz⟩
  have I_NoProgram : IniF l.prog K mg s_NoProgram "NoProgram.__init__" C_NoProgram fi_NoProgram (PySem.W.fnX "__init__" "NoProgram.__init__" (defArgs s_NoProgram) (defBody s_NoProgram) (defScope s_NoProgram) [("__class__", cc_NoProgram)] .none kV_NoProgram dc_NoProgram pm_NoProgram an_NoProgram (.ref co_NoProgram) ct_NoProgram) := ⟨⟨cc_NoProgram, co_NoProgram, oc_NoProgram, kV_NoProgram, dc_NoProgram, pm_NoProgram, ct_NoProgram, o2_NoProgram, oq_NoProgram, od_NoProgram, an_NoProgram, ol_NoProgram, oe_NoProgram, os_NoProgram, sl_NoProgram, sc_NoProgram, vs_NoProgram, fl_NoProgram, tf_NoProgram, rfl, l_NoProgram, d_NoProgram, e_NoProgram, q_NoProgram, h_NoProgram, p_NoProgram, fSup, PySem.W.mg_none_of X G z_super⟩⟩
  have B_NoText : KBn K (PySem.W.fnX "__init__" "NoText.__init__" (defArgs s_NoText) (defBody s_NoText) (defScope s_NoText) [("__class__", cc_NoText)] .none kV_NoText dc_NoText pm_NoText an_NoText (.ref co_NoText) ct_NoText) ["self", "at"] 2 [] (fun us ws => us ++ ws) (fun vs zs => vs ++ zs) := ⟨fun s us ws _ h1 h2 => match us, ws, h1, h2 with | [_, _], [], _, _ => .of_eq rfl, fun r rz => r.append rz⟩
  have I_NoText : IniF l.prog K mg s_NoText "NoText.__init__" C_NoText fi_NoText (PySem.W.fnX "__init__" "NoText.__init__" (defArgs s_NoText) (defBody s_NoText) (defScope s_NoText) [("__class__", cc_NoText)] .none kV_NoText dc_NoText pm_NoText an_NoText (.ref co_NoText) ct_NoText) := ⟨⟨cc_NoText, co_NoText, oc_NoText, kV_NoText, dc_NoText, pm_NoText, ct_NoText, o2_NoText, oq_NoText, od_NoText, an_NoText, ol_NoText, oe_NoText, os_NoText, sl_NoText, sc_NoText, vs_NoText, fl_NoText, tf_NoText, rfl, l_NoText, d_NoText, e_NoText, q_NoText, h_NoText, p_NoText, fSup, PySem.W.mg_none_of X G z_super⟩⟩
  have B_NoTree : KBn K (PySem.W.fnX "__init__" "NoTree.__init__" (defArgs s_NoTree) (defBody s_NoTree) (defScope s_NoTree) [("__class__", cc_NoTree)] .none kV_NoTree dc_NoTree pm_NoTree an_NoTree (.ref co_NoTree) ct_NoTree) ["self", "path"] 1 ["path"] (fun us ws => us ++ ws) (fun vs zs => vs ++ zs) := ⟨fun s us ws _ h1 h2 => match us, ws, h1, h2 with | [_], [_], _, _ => .of_eq rfl, fun r rz => r.append rz⟩
  have P_NoTree : Binds K (PySem.W.fnX "__init__" "NoTree.__init__" (defArgs s_NoTree) (defBody s_NoTree) (defScope s_NoTree) [("__class__", cc_NoTree)] .none kV_NoTree dc_NoTree pm_NoTree an_NoTree (.ref co_NoTree) ct_NoTree) ["self", "path"] [] := fun s us _ hl => match us, hl with | [_, _], _ => .of_eq rfl
  have I_NoTree : IniF l.prog K mg s_NoTree "NoTree.__init__" C_NoTree fi_NoTree (PySem.W.fnX "__init__" "NoTree.__init__" (defArgs s_NoTree) (defBody s_NoTree) (defScope s_NoTree) [("__class__", cc_NoTree)] .none kV_NoTree dc_NoTree pm_NoTree an_NoTree (.ref co_NoTree) ct_NoTree) := ⟨⟨cc_NoTree, co_NoTree, oc_NoTree, kV_NoTree, dc_NoTree, pm_NoTree, ct_NoTree, o2_NoTree, oq_NoTree, od_NoTree, an_NoTree, ol_NoTree, oe_NoTree, os_NoTree, sl_NoTree, sc_NoTree, vs_NoTree, fl_NoTree, tf_NoTree, rfl, l_NoTree, d_NoTree, e_NoTree, q_NoTree, h_NoTree, p_NoTree, fSup, PySem.W.mg_none_of X G z_super⟩⟩
  have B_NoKind : KBn K (PySem.W.fnX "__init__" "NoKind.__init__" (defArgs s_NoKind) (defBody s_NoKind) (defScope s_NoKind) [("__class__", cc_NoKind)] .none kV_NoKind dc_NoKind pm_NoKind an_NoKind (.ref co_NoKind) ct_NoKind) ["self", "path"] 2 [] (fun us ws => us ++ ws) (fun vs zs => vs ++ zs) := ⟨fun s us ws _ h1 h2 => match us, ws, h1, h2 with | [_, _], [], _, _ => .of_eq rfl, fun r rz => r.append rz⟩
  have I_NoKind : IniF l.prog K mg s_NoKind "NoKind.__init__" C_NoKind fi_NoKind (PySem.W.fnX "__init__" "NoKind.__init__" (defArgs s_NoKind) (defBody s_NoKind) (defScope s_NoKind) [("__class__", cc_NoKind)] .none kV_NoKind dc_NoKind pm_NoKind an_NoKind (.ref co_NoKind) ct_NoKind) := ⟨⟨cc_NoKind, co_NoKind, oc_NoKind, kV_NoKind, dc_NoKind, pm_NoKind, ct_NoKind, o2_NoKind, oq_NoKind, od_NoKind, an_NoKind, ol_NoKind, oe_NoKind, os_NoKind, sl_NoKind, sc_NoKind, vs_NoKind, fl_NoKind, tf_NoKind, rfl, l_NoKind, d_NoKind, e_NoKind, q_NoKind, h_NoKind, p_NoKind, fSup, PySem.W.mg_none_of X G z_super⟩⟩
  have B_NoPlace : KBn K (PySem.W.fnX "__init__" "NoPlace.__init__" (defArgs s_NoPlace) (defBody s_NoPlace) (defScope s_NoPlace) [("__class__", cc_NoPlace)] .none kV_NoPlace dc_NoPlace pm_NoPlace an_NoPlace (.ref co_NoPlace) ct_NoPlace) ["self", "path"] 1 ["path"] (fun us ws => us ++ ws) (fun vs zs => vs ++ zs) := ⟨fun s us ws _ h1 h2 => match us, ws, h1, h2 with | [_], [_], _, _ => .of_eq rfl, fun r rz => r.append rz⟩
  have I_NoPlace : IniF l.prog K mg s_NoPlace "NoPlace.__init__" C_NoPlace fi_NoPlace (PySem.W.fnX "__init__" "NoPlace.__init__" (defArgs s_NoPlace) (defBody s_NoPlace) (defScope s_NoPlace) [("__class__", cc_NoPlace)] .none kV_NoPlace dc_NoPlace pm_NoPlace an_NoPlace (.ref co_NoPlace) ct_NoPlace) := ⟨⟨cc_NoPlace, co_NoPlace, oc_NoPlace, kV_NoPlace, dc_NoPlace, pm_NoPlace, ct_NoPlace, o2_NoPlace, oq_NoPlace, od_NoPlace, an_NoPlace, ol_NoPlace, oe_NoPlace, os_NoPlace, sl_NoPlace, sc_NoPlace, vs_NoPlace, fl_NoPlace, tf_NoPlace, rfl, l_NoPlace, d_NoPlace, e_NoPlace, q_NoPlace, h_NoPlace, p_NoPlace, fSup, PySem.W.mg_none_of X G z_super⟩⟩
  have B_TooMany : KBn K (PySem.W.fnX "__init__" "TooMany.__init__" (defArgs s_TooMany) (defBody s_TooMany) (defScope s_TooMany) [("__class__", cc_TooMany)] .none kV_TooMany dc_TooMany pm_TooMany an_TooMany (.ref co_TooMany) ct_TooMany) ["self", "most"] 1 ["most"] (fun us ws => us ++ ws) (fun vs zs => vs ++ zs) := ⟨fun s us ws _ h1 h2 => match us, ws, h1, h2 with | [_], [_], _, _ => .of_eq rfl, fun r rz => r.append rz⟩
  have P_TooMany : Binds K (PySem.W.fnX "__init__" "TooMany.__init__" (defArgs s_TooMany) (defBody s_TooMany) (defScope s_TooMany) [("__class__", cc_TooMany)] .none kV_TooMany dc_TooMany pm_TooMany an_TooMany (.ref co_TooMany) ct_TooMany) ["self", "most"] [] := fun s us _ hl => match us, hl with | [_, _], _ => .of_eq rfl
  have I_TooMany : IniF l.prog K mg s_TooMany "TooMany.__init__" C_TooMany fi_TooMany (PySem.W.fnX "__init__" "TooMany.__init__" (defArgs s_TooMany) (defBody s_TooMany) (defScope s_TooMany) [("__class__", cc_TooMany)] .none kV_TooMany dc_TooMany pm_TooMany an_TooMany (.ref co_TooMany) ct_TooMany) := ⟨⟨cc_TooMany, co_TooMany, oc_TooMany, kV_TooMany, dc_TooMany, pm_TooMany, ct_TooMany, o2_TooMany, oq_TooMany, od_TooMany, an_TooMany, ol_TooMany, oe_TooMany, os_TooMany, sl_TooMany, sc_TooMany, vs_TooMany, fl_TooMany, tf_TooMany, rfl, l_TooMany, d_TooMany, e_TooMany, q_TooMany, h_TooMany, p_TooMany, fSup, PySem.W.mg_none_of X G z_super⟩⟩
  let T : Top K mg := { _law_feed_of := f0, _law_feed_of_d := _, _law_feed_of_f := F0, _law_feed_of_b := b0, _law_feed_of_g := PySem.W.mg_of X G a0, _law_feed_of_k := k0, _law_draw := f1, _law_draw_d := _, _law_draw_f := F1, _law_draw_b := b1, _law_draw_g := PySem.W.mg_of X G a1, _law_draw_k := k1, _law_pick := f2, _law_pick_d := _, _law_pick_f := F2, _law_pick_b := b2, _law_pick_g := PySem.W.mg_of X G a2, _law_pick_k := k2, _law_same := f3, _law_same_d := _, _law_same_f := F3, _law_same_b := b3, _law_same_g := PySem.W.mg_of X G a3, _law_same_k := k3, _law_any_value := f4, _law_any_value_d := _, _law_any_value_f := F4, _law_any_value_ds0 := ds4_0, _law_any_value_v0 := v4_0, _law_any_value_b0 := b4_0, _law_any_value_ds1 := ds4_1, _law_any_value_v1 := v4_1, _law_any_value_b1 := b4_1, _law_any_value_g := PySem.W.mg_of X G a4, _law_any_value_k := k4, _law_made := f5, _law_made_d := _, _law_made_f := F5, _law_made_b := b5, _law_made_g := PySem.W.mg_of X G a5, _law_made_k := k5, _law_sorts := f6, _law_sorts_d := _, _law_sorts_f := F6, _law_sorts_b := b6, _law_sorts_g := PySem.W.mg_of X G a6, _law_sorts_k := k6, _law_raised := f7, _law_raised_d := _, _law_raised_f := F7, _law_raised_b := b7, _law_raised_g := PySem.W.mg_of X G a7, _law_raised_k := k7, law := fa, law_d := _, law_f := F8, law_b := b8, law_g := PySem.W.mg_of X G a8, law_k := k8, len_n := PySem.W.mg_none_of X G z_len, isinstance_n := PySem.W.mg_none_of X G z_isinstance, bool_n := PySem.W.mg_none_of X G z_bool, tuple_n := PySem.W.mg_none_of X G z_tuple, list_n := PySem.W.mg_none_of X G z_list, range_n := PySem.W.mg_none_of X G z_range, all_n := PySem.W.mg_none_of X G z_all, zip_n := PySem.W.mg_none_of X G z_zip, max_n := PySem.W.mg_none_of X G z_max, min_n := PySem.W.mg_none_of X G z_min, enumerate_n := PySem.W.mg_none_of X G z_enumerate, ValueError_n := PySem.W.mg_none_of X G z_ValueError, super_n := PySem.W.mg_none_of X G z_super, SaidError := C_SaidError, SaidError_g := PySem.W.mg_of X G g_SaidError, NoBook := C_NoBook, NoBook_g := PySem.W.mg_of X G g_NoBook, NoProgram := C_NoProgram, NoProgram_g := PySem.W.mg_of X G g_NoProgram, NoText := C_NoText, NoText_g := PySem.W.mg_of X G g_NoText, NoTree := C_NoTree, NoTree_g := PySem.W.mg_of X G g_NoTree, NoKind := C_NoKind, NoKind_g := PySem.W.mg_of X G g_NoKind, NoPlace := C_NoPlace, NoPlace_g := PySem.W.mg_of X G g_NoPlace, TooMany := C_TooMany, TooMany_g := PySem.W.mg_of X G g_TooMany, AtEnd := C_AtEnd, AtEnd_g := PySem.W.mg_of X G g_AtEnd, NoLine := C_NoLine, NoLine_g := PySem.W.mg_of X G g_NoLine, NoRow := C_NoRow, NoRow_g := PySem.W.mg_of X G g_NoRow, NoRun := C_NoRun, NoRun_g := PySem.W.mg_of X G g_NoRun, NoChange := C_NoChange, NoChange_g := PySem.W.mg_of X G g_NoChange, S_b := st1, S_h := st2, S_t := st3, TooMany_n := st4, AtEnd_n := st5, TooMany_s := st6, AtEnd_s := st7, cls := (by simp only [List.mem_cons, List.not_mem_nil, or_false]; rintro C (rfl | rfl | rfl | rfl | rfl | rfl | rfl | rfl | rfl | rfl | rfl | rfl) <;> assumption), sep := sepB_ok sepA, ndc := of_decide_eq_true ndA, NoBook_i := fi_NoBook, NoBook_d := _, NoBook_j := i_NoBook, NoBook_t := t_NoBook, NoBook_row := n_NoBook_row, NoBook_why := n_NoBook_why, NoBook_b := B_NoBook, NoProgram_i := fi_NoProgram, NoProgram_d := _, NoProgram_j := i_NoProgram, NoProgram_t := t_NoProgram, NoProgram_row := n_NoProgram_row, NoProgram_why := n_NoProgram_why, NoProgram_b := B_NoProgram, NoText_i := fi_NoText, NoText_d := _, NoText_j := i_NoText, NoText_t := t_NoText, NoText_at := n_NoText_at, NoText_b := B_NoText, NoTree_p := P_NoTree, NoTree_i := fi_NoTree, NoTree_d := _, NoTree_j := i_NoTree, NoTree_t := t_NoTree, NoTree_path := n_NoTree_path, NoTree_b := B_NoTree, NoKind_i := fi_NoKind, NoKind_d := _, NoKind_j := i_NoKind, NoKind_t := t_NoKind, NoKind_path := n_NoKind_path, NoKind_b := B_NoKind, NoPlace_i := fi_NoPlace, NoPlace_d := _, NoPlace_j := i_NoPlace, NoPlace_t := t_NoPlace, NoPlace_path := n_NoPlace_path, NoPlace_b := B_NoPlace, TooMany_p := P_TooMany, TooMany_i := fi_TooMany, TooMany_d := _, TooMany_j := i_TooMany, TooMany_t := t_TooMany, TooMany_most := n_TooMany_most, TooMany_b := B_TooMany, AtEnd_j := i_AtEnd, NoLine_j := i_NoLine, NoRow_j := i_NoRow, NoRun_j := i_NoRun, NoChange_j := i_NoChange }
  exact ⟨T.law_d, fun s v => .of_eq rfl, fun base _ _ => ok_law (P := l.prog) (w := w) (base := base) T { NoBook := oki_NoBook I_NoBook X_NoBook.sup n_NoBook_row n_NoBook_why, NoProgram := oki_NoProgram I_NoProgram X_NoProgram.sup n_NoProgram_row n_NoProgram_why, NoText := oki_NoText I_NoText X_NoText.sup n_NoText_at, NoTree := oki_NoTree I_NoTree X_NoTree.sup n_NoTree_path, NoKind := oki_NoKind I_NoKind X_NoKind.sup n_NoKind_path, NoPlace := oki_NoPlace I_NoPlace X_NoPlace.sup n_NoPlace_path, TooMany := oki_TooMany I_TooMany X_TooMany.sup n_TooMany_most }⟩
end Sa

set_option Elab.async false
set_option linter.all false
set_option maxRecDepth 100000
set_option maxHeartbeats 4000000
open PySem PySem.W PyProof.Rows
set_option maxHeartbeats 0 in
theorem PySem.Challenge.cw_saidanew_k01_errors_and_their_values_holds : PySem.Challenge.rw_saidanew_k01_errors_and_their_values.Holds := by
  w_on; o_law; k_head; (case hw => w_witness2)
  k_fill
  refine L2.walk_of (l := PySem.Challenge.rw_saidanew_k01_errors_and_their_values) (n := 63) (k := 9) (x := "_law_script") (CX := fun _ => L2.CX0) (sp := fun w => Sa.spLaw _) rfl (by decide) rfl ⟨rfl, by decide, by decide⟩ (fun w h Y => PySem.W.kIn_of Y) ?F (fun _ _ a ns hl _ hS => ⟨a, ns, rfl, hS, hl, fun _ => rfl⟩) (fun _ _ _ _ _ h => h)
  case F =>
    intro w mg fa h KX G hmg
    refine' Sa.all_mk KX G hmg ?a0 ?l0 ?c0 ?k0 ?a1 ?l1 ?c1 ?k1 ?a2 ?l2 ?c2 ?k2 ?a3 ?l3 ?c3 ?k3 ?a4 ?l4 ?c4 ?k4 ?m4 ?a5 ?l5 ?c5 ?k5 ?a6 ?l6 ?c6 ?k6 ?a7 ?l7 ?c7 ?k7 ?a8 ?l8 ?c8 ?k8 ?z_len ?z_isinstance ?z_bool ?z_tuple ?z_list ?z_range ?z_all ?z_zip ?z_max ?z_min ?z_enumerate ?z_ValueError ?z_super ?g_SaidError ?g_NoBook ?g_NoProgram ?g_NoText ?g_NoTree ?g_NoKind ?g_NoPlace ?g_TooMany ?g_AtEnd ?g_NoLine ?g_NoRow ?g_NoRun ?g_NoChange ?o_NoBook ?v_NoBook ?w_NoBook ?o_NoProgram ?v_NoProgram ?w_NoProgram ?o_NoText ?v_NoText ?w_NoText ?o_NoTree ?v_NoTree ?w_NoTree ?o_NoKind ?v_NoKind ?w_NoKind ?o_NoPlace ?v_NoPlace ?w_NoPlace ?o_TooMany ?v_TooMany ?w_TooMany ?o_AtEnd ?v_AtEnd ?w_AtEnd ?o_NoLine ?v_NoLine ?w_NoLine ?o_NoRow ?v_NoRow ?w_NoRow ?o_NoRun ?v_NoRun ?w_NoRun ?o_NoChange ?v_NoChange ?w_NoChange ?sepA ?ndA ?sB ?fSup ?i_NoBook ?t_NoBook ?l_NoBook ?d_NoBook ?e_NoBook ?q_NoBook ?h_NoBook ?p_NoBook ?n_NoBook_row ?n_NoBook_why ?i_NoProgram ?t_NoProgram ?l_NoProgram ?d_NoProgram ?e_NoProgram ?q_NoProgram ?h_NoProgram ?p_NoProgram ?n_NoProgram_row ?n_NoProgram_why ?i_NoText ?t_NoText ?l_NoText ?d_NoText ?e_NoText ?q_NoText ?h_NoText ?p_NoText ?n_NoText_at ?i_NoTree ?t_NoTree ?l_NoTree ?d_NoTree ?e_NoTree ?q_NoTree ?h_NoTree ?p_NoTree ?n_NoTree_path ?i_NoKind ?t_NoKind ?l_NoKind ?d_NoKind ?e_NoKind ?q_NoKind ?h_NoKind ?p_NoKind ?n_NoKind_path ?i_NoPlace ?t_NoPlace ?l_NoPlace ?d_NoPlace ?e_NoPlace ?q_NoPlace ?h_NoPlace ?p_NoPlace ?n_NoPlace_path ?i_TooMany ?t_TooMany ?l_TooMany ?d_TooMany ?e_TooMany ?q_TooMany ?h_TooMany ?p_TooMany ?n_TooMany_most ?i_AtEnd ?i_NoLine ?i_NoRow ?i_NoRun ?i_NoChange
    (case a0 => k_is)
    (case l0 => k_is)
    (case c0 => k_is)
    (case k0 => k_is)
    (case a1 => k_is)
    (case l1 => k_is)
    (case c1 => k_is)
    (case k1 => k_is)
    (case a2 => k_is)
    (case l2 => k_is)
    (case c2 => k_is)
    (case k2 => k_is)
    (case a3 => k_is)
    (case l3 => k_is)
    (case c3 => k_is)
    (case k3 => k_is)
    (case a4 => k_is)
    (case l4 => k_is)
    (case c4 => k_is)
    (case k4 => k_is)
    (case m4 => k_is)
    (case a5 => k_is)
    (case l5 => k_is)
    (case c5 => k_is)
    (case k5 => k_is)
    (case a6 => k_is)
    (case l6 => k_is)
    (case c6 => k_is)
    (case k6 => k_is)
    (case a7 => k_is)
    (case l7 => k_is)
    (case c7 => k_is)
    (case k7 => k_is)
    (case a8 => k_is)
    (case l8 => k_is)
    (case c8 => k_is)
    (case k8 => k_is)
    (case z_len => k_is)
    (case z_isinstance => k_is)
    (case z_bool => k_is)
    (case z_tuple => k_is)
    (case z_list => k_is)
    (case z_range => k_is)
    (case z_all => k_is)
    (case z_zip => k_is)
    (case z_max => k_is)
    (case z_min => k_is)
    (case z_enumerate => k_is)
    (case z_ValueError => k_is)
    (case z_super => k_is)
    (case g_SaidError => k_is)
    (case g_NoBook => k_is)
    (case g_NoProgram => k_is)
    (case g_NoText => k_is)
    (case g_NoTree => k_is)
    (case g_NoKind => k_is)
    (case g_NoPlace => k_is)
    (case g_TooMany => k_is)
    (case g_AtEnd => k_is)
    (case g_NoLine => k_is)
    (case g_NoRow => k_is)
    (case g_NoRun => k_is)
    (case g_NoChange => k_is)
    (case o_NoBook => k_is)
    (case v_NoBook => exact (by first | decide +kernel | with_unfolding_all rfl))
    (case w_NoBook => exact (by first | decide +kernel | with_unfolding_all rfl))
    (case o_NoProgram => k_is)
    (case v_NoProgram => exact (by first | decide +kernel | with_unfolding_all rfl))
    (case w_NoProgram => exact (by first | decide +kernel | with_unfolding_all rfl))
    (case o_NoText => k_is)
    (case v_NoText => exact (by first | decide +kernel | with_unfolding_all rfl))
    (case w_NoText => exact (by first | decide +kernel | with_unfolding_all rfl))
    (case o_NoTree => k_is)
    (case v_NoTree => exact (by first | decide +kernel | with_unfolding_all rfl))
    (case w_NoTree => exact (by first | decide +kernel | with_unfolding_all rfl))
    (case o_NoKind => k_is)
    (case v_NoKind => exact (by first | decide +kernel | with_unfolding_all rfl))
    (case w_NoKind => exact (by first | decide +kernel | with_unfolding_all rfl))
    (case o_NoPlace => k_is)
    (case v_NoPlace => exact (by first | decide +kernel | with_unfolding_all rfl))
    (case w_NoPlace => exact (by first | decide +kernel | with_unfolding_all rfl))
    (case o_TooMany => k_is)
    (case v_TooMany => exact (by first | decide +kernel | with_unfolding_all rfl))
    (case w_TooMany => exact (by first | decide +kernel | with_unfolding_all rfl))
    (case o_AtEnd => k_is)
    (case v_AtEnd => exact (by first | decide +kernel | with_unfolding_all rfl))
    (case w_AtEnd => exact (by first | decide +kernel | with_unfolding_all rfl))
    (case o_NoLine => k_is)
    (case v_NoLine => exact (by first | decide +kernel | with_unfolding_all rfl))
    (case w_NoLine => exact (by first | decide +kernel | with_unfolding_all rfl))
    (case o_NoRow => k_is)
    (case v_NoRow => exact (by first | decide +kernel | with_unfolding_all rfl))
    (case w_NoRow => exact (by first | decide +kernel | with_unfolding_all rfl))
    (case o_NoRun => k_is)
    (case v_NoRun => exact (by first | decide +kernel | with_unfolding_all rfl))
    (case w_NoRun => exact (by first | decide +kernel | with_unfolding_all rfl))
    (case o_NoChange => k_is)
    (case v_NoChange => exact (by first | decide +kernel | with_unfolding_all rfl))
    (case w_NoChange => exact (by first | decide +kernel | with_unfolding_all rfl))
    (case sepA => exact (by first | decide +kernel | with_unfolding_all rfl))
    (case ndA => exact (by first | decide +kernel | with_unfolding_all rfl))
    (case sB => exact (by first | decide +kernel | with_unfolding_all rfl))
    (case fSup => exact (by first | rfl | decide +kernel))
    (case i_NoBook => k_is)
    (case t_NoBook => k_is)
    (case l_NoBook => k_is)
    (case d_NoBook => k_is)
    (case e_NoBook => k_is)
    (case q_NoBook => k_is)
    (case h_NoBook => exact rfl)
    (case p_NoBook => exact (by first | rfl | decide +kernel))
    (case n_NoBook_row => k_is)
    (case n_NoBook_why => k_is)
    (case i_NoProgram => k_is)
    (case t_NoProgram => k_is)
    (case l_NoProgram => k_is)
    (case d_NoProgram => k_is)
    (case e_NoProgram => k_is)
    (case q_NoProgram => k_is)
    (case h_NoProgram => exact rfl)
    (case p_NoProgram => exact (by first | rfl | decide +kernel))
    (case n_NoProgram_row => k_is)
    (case n_NoProgram_why => k_is)
    (case i_NoText => k_is)
    (case t_NoText => k_is)
    (case l_NoText => k_is)
    (case d_NoText => k_is)
    (case e_NoText => k_is)
    (case q_NoText => k_is)
    (case h_NoText => exact rfl)
    (case p_NoText => exact (by first | rfl | decide +kernel))
    (case n_NoText_at => k_is)
    (case i_NoTree => k_is)
    (case t_NoTree => k_is)
    (case l_NoTree => k_is)
    (case d_NoTree => k_is)
    (case e_NoTree => k_is)
    (case q_NoTree => k_is)
    (case h_NoTree => exact rfl)
    (case p_NoTree => exact (by first | rfl | decide +kernel))
    (case n_NoTree_path => k_is)
    (case i_NoKind => k_is)
    (case t_NoKind => k_is)
    (case l_NoKind => k_is)
    (case d_NoKind => k_is)
    (case e_NoKind => k_is)
    (case q_NoKind => k_is)
    (case h_NoKind => exact rfl)
    (case p_NoKind => exact (by first | rfl | decide +kernel))
    (case n_NoKind_path => k_is)
    (case i_NoPlace => k_is)
    (case t_NoPlace => k_is)
    (case l_NoPlace => k_is)
    (case d_NoPlace => k_is)
    (case e_NoPlace => k_is)
    (case q_NoPlace => k_is)
    (case h_NoPlace => exact rfl)
    (case p_NoPlace => exact (by first | rfl | decide +kernel))
    (case n_NoPlace_path => k_is)
    (case i_TooMany => k_is)
    (case t_TooMany => k_is)
    (case l_TooMany => k_is)
    (case d_TooMany => k_is)
    (case e_TooMany => k_is)
    (case q_TooMany => k_is)
    (case h_TooMany => exact rfl)
    (case p_TooMany => exact (by first | rfl | decide +kernel))
    (case n_TooMany_most => k_is)
    (case i_AtEnd => k_is)
    (case i_NoLine => k_is)
    (case i_NoRow => k_is)
    (case i_NoRun => k_is)
    (case i_NoChange => k_is)

