import PyProof.Rows.All
import Wide.All
import OpenK.AllK
import Wide.FinOn
import KE.KExcSuper
import KE.KSuper
import HandS.Base
import HandS.Call
import HandS.List
import HandS.Ends
import HandS.Exc
import HandS.ExcInit
import HandS.ClsMeth
import HandS.Nested
import HandS.FStr
import KE.KxText
import HandS.ForSpec
import HandS.ForMost
import HandS.Sort
import HandS.SortInts
import HandS.Strs
import HandS.SetFor
import HandS.IsInst
import HandS.Conv
import HandS.Wide
import HandS.Deep
import HandS.TupAny
import HandS.TupLe
import HandS.Flow
import HandS.Style
import HandS.CallSlots
import HandS.Defaults
import KE.DataMinMax
import HandS.Head0
import HandS.Head1
import HandS.Head2
import HandS.HeadEnd
import HandS.HeadHook1
import HandS.HeadHook2
import PySem.Challenge.RW_endswithpapers_k17_middles_of_two_pairs
section
set_option Elab.async false
set_option linter.all false
set_option maxRecDepth 100000
set_option maxHeartbeats 2000000
namespace PyD
open PySem PySem.Spec PyProof.Rows L2 NdefX PySem.W
/-! ### an own exception's __init__ that begins with super().__init__(..) -/
/-- what the written part says of such a def: f the function, D the class in whose body it stands -/
structure SupF (P : Program) (K : PySem.W.Frag) (mg : Str → Option Value) (f D cc : Addr) (F : NF) : Prop where
  lk : ∃ oc od doc pm ctv osl, K.lookup f = some ⟨oc, od, .func (F.fd doc pm ctv), osl⟩
  cl : F.cl = [(("__class__" : Str), cc)]
  cell : ∃ c1 c2 c3, K.lookup cc = some ⟨c1, c2, .cell (some (.ref D)), c3⟩
  code : codeIn K (.ref F.c) F.qual = true
  rcd : ∃ c1 c2 vs c3 file tf, K.lookup F.c = some ⟨c1, c2, .fields vs, c3⟩ ∧ vs[2]? = some (.str file tf) ∧ ((P.main.file : Str) == file) = true
  dcl : ∃ cd, clsIn K D = some cd
  top : (P.main.scope.names.lookup ("super" : Str)).isSome = false
  free : mg "super" = none
  opq : nsIn K cStatics "thirdparty.any" = some none
/-- what it says of the class C of the instance -/
structure SupC (K : PySem.W.Frag) (C D : Addr) : Prop where
  ox : OexC K C
  init : ks_superIn K C D "__init__" = some (some (.builtin "ValueError.__init__"))
  ve : subIn K (.ref C) (.type "ValueError") = some true
  sub : mroIn K C (.ref D) = some true
theorem kxs_call_in {X : Cx} {pins : List (Addr × Obj)} {σ : L2.St} {H : Hp} {s : Shared} {u a C : Addr} {rest : List Value} {Q : Value → Shared → Prop} {E : Value → Shared → Prop} {A : Around}
    (T : OexC X.K C) (I : Inv X pins σ H s) (e : H a = some (exo a C none)) (hu : s.heap.get? u = some (kxs_mw "ValueError.__init__" a)) (hz : rest.length ≤ sizeLine) (h : ∀ s', Inv X pins σ H s' → Q .none s') :
    wpAny (model X.prog X.w) A (call (.ref u) rest) Q E s := by
  obtain ⟨nm, q, N, bs, bm, sn, sub, ab, col, dd, k0, k1, k2, k3, k5, hC, hbm⟩ := T.cls
  obtain ⟨t1, ho⟩ := exo_at I.hok e
  have hC' := I.kIn _ _ hC
  obtain ⟨hp, g, d, t, os⟩ := s
  refine wpAny_call (codeAny_of_tree ?_)
  show wpAny _ A.in1 (callAny (.ref u) ⟨rest, []⟩) _ _ _
  simp only [callAny]
  refine wpAny_bind (wpAny_load hu ?_)
  simp only [kxs_mw, show (Value.type "method-wrapper" == Value.type "method" || Value.type "method-wrapper" == Value.type "builtin_function_or_method" || Value.type "method-wrapper" == Value.type "method-wrapper") = true by decide, if_true]
  refine KFB.if_so (by decide) ?_
  refine wpAny_bind (check_bound_init F.excBase_ValueError.toExcCallFacts hC' ho rfl ?_)
  refine wpAny_bind (wpAny_pure (wpAny_pure ?_))
  refine ⟨plainId_quiet F.excBase_ValueError.init.plain _, codeAny_builtin F.excBase_ValueError.initEntry ?_⟩
  refine exc_init_tree (cls := .ref C) (t0 := t1) (dv := none) (c2 := .none) (c3 := .none) (b4 := .bool false) ho hz fun h' k hx _ => ?_
  have J := I.write (t' := t) (x := a) (e := a) (o := exo a C none) (by rw [e]; exact True.intro) (.inl rfl) k ⟨_, hx⟩ (exo_ok hx)
  have eu : upd H a (exo a C none) = H := by
    funext b
    by_cases hb : b = a
    · rw [hb, upd_same, e]
    · rw [upd_ne hb]
  rw [eu] at J
  exact h _ J
theorem look1 {y k : Str} {c d : Addr} (e : List.lookup y [(k, c)] = some d) : y = k ∧ d = c := by
  by_cases h : y = k
  · subst h
    simp [List.lookup] at e
    exact ⟨rfl, e.symm⟩
  · have hb : (y == k) = false := by simpa using h
    simp [List.lookup, hb] at e
/-- the reading: the arguments of super().__init__, then the rest -/
def tSupI (K : PySem.W.Frag) (D : Addr) (ta : TA) (t : TS) (a : Addr) : TS := fun En σ H => ∃ C, SupC K C D ∧ H a = some (exo a C none) ∧ ta σ H fun ws H1 => ws.length ≤ 1000 ∧ H1 a = some (exo a C none) ∧ t En σ H1
theorem fn_sup {CX : CXT} {P : Program} {w : World} {K : PySem.W.Frag} {mg : Str → Option Value} {base : Heap} {N ps : List Str} {F : NF} {f D cc : Addr} {k : Nat} {sp : Sp} {doc pm ctv : Value} {slf : Str} {p0 p1 p2 p3 p4 : Pos} {arg : Expr} {rest : List Stmt}
    (lk : ∃ oc od osl, K.lookup f = some ⟨oc, od, .func (F.fd doc pm ctv), osl⟩) (Fc : SupF P K mg f D cc F) (S : NScope N ps ["__class__"] F.scope)
    (hbd : F.body = .Expr (.Call (.Attribute (.Call (.Name "super" p0) [] [] p1) "__init__" p2) [arg] [] p3) p4 :: rest)
    (hself : ps[0]? = some slf) (hpar : ((F.params.posonlyargs ++ F.params.args).head?).map (·.arg) = some slf) (hks : F.scope.names.lookup ("super" : Str) = some .globalImplicit)
    (hb : ∀ us : List Value, us.length = ps.length → bindArgs (F.fd doc pm ctv) ⟨us, []⟩ = pure (ps.zip us)) (len : ∀ vs H Q E, sp vs H Q E → vs.length = ps.length)
    (hstar : ∀ env : Env, starEach [arg] env = (false, eval arg env) :: starEach [] env)
    (hcall : ∀ env : Env, ∃ pl : Sem Bool, eval (.Call (.Attribute (.Call (.Name "super" p0) [] [] p1) "__init__" p2) [arg] [] p3) env = (do
      let ov ← attributeBase (.Call (.Name "super" p0) [] [] p1) "__init__" env (eval (.Call (.Name "super" p0) [] [] p1) env)
      standAt p2.atName
      let (f, first) ← holding [ov] (getMethod ov "__init__" pl)
      callWith p3 f first (backTo p3 (starEach [arg] env)) []))
    (hbody : ∀ (A : Around) (outer : List Env) (s : Shared) (H : Hp) (vs : List V) (Q : VK) (E : XK), Room k (A.deeper (envF F f s.heap.objs.size)) → sp vs H Q E →
      ∃ ta t a, vs[0]? = some (.ref a) ∧ PA (ncx CX P w K mg base N F f A outer s H E) [arg] ta ∧ PSs (ncx CX P w K mg base N F f A outer s H E) rest t ∧ tSupI K D ta t a { nx := fun _ H' => Q .non H', rt := Q } (startF N vs [some (.ref D)]) H) :
    FnOk P w K mg base CX (k + 1) f (F.fd doc pm ctv) ps sp := by
  refine ⟨len, fun A outer s H args us vs Q E hr e0 hbt r hsp => ?_⟩
  have hl := len _ _ _ _ hsp
  have KX : K.In s.heap := e0.mod.kin.keeps fun b o e => (e0.bs b o e).1
  have lim : s.heap.NoLimit := e0.mod.nolimit.keeps fun b o e => (e0.bs b o e).1
  obtain ⟨oc, od, osl, lk⟩ := lk
  obtain ⟨c1, c2, c3, lc⟩ := Fc.cell
  obtain ⟨r1, r2, rv, r3, file, tf, lr, hrv, hfile⟩ := Fc.rcd
  obtain ⟨cdD, hD⟩ := Fc.dcl
  obtain ⟨ta, t, a, hv0, ha, hrest, C, SC, ea, hq⟩ := hbody A outer s H vs Q E (hr.deeper _) hsp
  refine ks_codeAny_call_defAt (fd := F.fd doc pm ctv) (body := F.body) (binds := ps.zip us) hr.depth (KX _ _ lk) rfl lim (codeRec_of KX Fc.code) rfl hbt S.nocell (fun ⟨n, _⟩ hy => S.par n (List.of_mem_zip hy).1) (fun h₁ hns kp => ?_) S.co S.gen S.kind
  have Cl : CellsAt F.cl ["__class__"] [some (V.ref D)] s.heap H := by
    have lb : base.get? cc = some ⟨c1, c2, .cell (some (.ref D)), c3⟩ := e0.mod.kin _ _ lc
    rw [Fc.cl]
    refine ⟨rfl, fun y c e => ?_, fun x y c e1 e2 => ?_, fun i y e => ?_⟩
    · obtain ⟨_, rfl⟩ := look1 e
      exact ⟨(e0.bs _ _ lb).2, _, ⟨_, KX _ _ lc, rfl⟩⟩
    · rw [(look1 e1).1, (look1 e2).1]
    · match i, e with
      | 0, e =>
        cases e
        refine ⟨cc, by simp [List.lookup], fun v hv => ?_⟩
        cases hv
        exact ⟨.ref D, rfl, ⟨_, KX _ _ lc, rfl⟩⟩
  have I : Inv (ncx CX P w K mg base N F f A outer s H E) [] (startF N vs [some (.ref D)]) H { s with heap := h₁, toks := s.toks + (ps.zip us).length } := inv_startN S hr.hd e0 hl r Cl hns kp
  show PySem.wpAt (model P w) (A.deeper (envF F f s.heap.objs.size)) (.func F.body (envF F f s.heap.objs.size)) (execs F.body (envF F f s.heap.objs.size)) _ _ _
  obtain ⟨ar, har, harg⟩ : ∃ ar : Arg, (F.params.posonlyargs ++ F.params.args).head? = some ar ∧ ar.arg = slf := by
    cases z : (F.params.posonlyargs ++ F.params.args).head? with
    | none => rw [z] at hpar; cases hpar
    | some ar => rw [z] at hpar; exact ⟨ar, rfl, Option.some.inj hpar⟩
  have hslf : slf ∈ ps := List.mem_of_getElem? hself
  have hsl : F.scope.names.lookup slf = some .local := S.par slf hslf
  rw [hbd]
  have hint : interactive (envF F f s.heap.objs.size) = false := by
    show ((F.scope.kind == ScopeKind.module) && _) = false
    rw [S.kind]
    rfl
  obtain ⟨pl, hpl⟩ := hcall (envF F f s.heap.objs.size)
  refine ks_wpAt_execs_cons (ks_wpAt_Expr_any (ks_wpAt_MethodCall (pl := pl) ?_ hpl) hint rfl)
  have KX1 : K.In h₁ := fun b o e => kp _ _ (KX _ _ e)
  refine ks_wpAt_super_base (env := envF F f s.heap.objs.size) (f := f) (cc := F.c) hks (S.frk _ (by simp)) (by decide) rfl (KX1 _ _ lk) rfl har rfl (KX1 _ _ lr) rfl hrv hfile Fc.top ?_
  obtain ⟨mb, hmb, hbt2⟩ := e0.mod.blt
  have hbk : ∀ b o, base.get? b = some o → h₁.get? b = some o := fun b o e => kp _ _ (e0.bs b o e).1
  refine ks_loadName_global S.kind hks (Calls.loadGlobal_builtin (env := envF F f s.heap.objs.size) (e0.mod.glob.keeps hbk) Fc.free (hmb.keeps hbk) ((hbt2 _ (by decide)).trans (by first | boot_by_name | rfl | kernel_rfl)) ⟨rfl, ?_⟩)
  refine wpAny_loadName_free S.kind (S.frk _ (by simp)) (by show F.cl.lookup _ = _; rw [Fc.cl]; rfl) ⟨_, KX1 _ _ lc, rfl⟩ ?_
  rw [harg]
  have hne : ∃ u0, us[0]? = some u0 ∧ u0 = .ref a := by
    obtain ⟨u0, h0, r0⟩ := r.get hv0
    exact ⟨u0, h0, r0⟩
  obtain ⟨u0, hu0, rfl⟩ := hne
  have ndP : ps.Nodup := by
    have q := S.nd.sublist (List.take_sublist (ps.length + 1) N)
    rw [show ps.length + 1 = ps.length + [("__class__" : Str)].length from rfl, S.pre] at q
    exact (List.nodup_append.mp q).1
  refine wpAny_loadName_local S.kind hsl hns (zip_look ndP hself hu0) ?_
  obtain ⟨oD, hD1, hD2⟩ : ∃ oD, h₁.get? D = some oD ∧ oD.data = .cls cdD := by
    unfold clsIn at hD
    split at hD
    · rename_i c d cd' sl ho
      cases hD
      exact ⟨_, KX1 _ _ ho, rfl⟩
    · cases hD
  refine ks_wpAny_isType_cls hD1 hD2 ⟨rfl, ?_⟩
  obtain ⟨t1, hex⟩ := exo_at I.hok ea
  refine ks_wpAny_call_super hD1 hD2 hex rfl (fun c e => by cases e) (looks_mroIn KX1 SC.sub) (fun h2 e2 k2 => ?_)
  have KX2 : K.In h2 := fun b o e => k2 _ _ (KX1 _ _ e)
  have I2 := ClX.pin_new (t' := s.toks + (ps.zip us).length) I k2 (Nat.le_refl _) e2 (fun v e => by cases e)
  obtain ⟨t2, hex2⟩ := exo_at I2.hok ea
  have Iex : InstAt h2 a { cls := .ref C, dict := none, data := .fields #[.ref t2, .none, .none, .none, .bool false, .none] } C none := ⟨hex2, rfl, rfl, trivial⟩
  have hin : Looks (model P w) h2 (isInstance (.ref a) (.type "ValueError")) true := Iex.type.andThen (looks_subIn KX2 SC.ve)
  have hmi := SC.init
  cases hc : clsIn K C with
  | none => unfold ks_superIn at hmi; rw [hc] at hmi; cases hmi
  | some cdC =>
    unfold ks_superIn at hmi
    rw [hc] at hmi
    refine kxs_getMethod kxs_ValueError e2 (looks_opaque KX2 Fc.opq) (l₀ := cdC.mro) (fun A Q E s k q => wpAny_bind ((looks_clsIn KX2 hc) A _ E s k (wpAny_pure q))) rfl KX2 hmi hin (ks_ne KX2 Iex hc) (by decide) ?_
    have k3 : ∀ b o, h2.get? b = some o → (h2.push (kxs_mw "ValueError.__init__" a)).get? b = some o := fun b o e => Heap.get?_push_of_some _ e
    have e3 : (h2.push (kxs_mw "ValueError.__init__" a)).get? h2.objs.size = some (kxs_mw "ValueError.__init__" a) := Heap.get?_push_at rfl rfl
    have I3 := ClX.pin_new (t' := s.toks + (ps.zip us).length + 1) I2 k3 (Nat.le_refl _) e3 (fun v e => by cases e)
    show wpAny _ _ (callWith p3 (.ref h2.objs.size) [] (backTo p3 (starEach [arg] (envF F f s.heap.objs.size))) []) _ _ _
    have hrun := ha.run p3 _ _ _ H _ I3 hq
    rw [show (ncx CX P w K mg base N F f A outer s H E).env = envF F f s.heap.objs.size from rfl, hstar] at hrun
    rw [hstar]
    refine kxs_callWith (i := "ValueError.__init__") (x := a) rfl (Calls.evalArgs_plain (thn hrun fun vs' s1 ⟨ws, H1, I4, r1, hlen, ea1, q1⟩ => ⟨ClX.pin_at I4, ?_⟩))
    have hz : vs'.length ≤ sizeLine := by
      rw [← Paired.length r1, sizeLine_eq]
      omega
    refine kxs_call_in SC.ox I4 ea1 (ClX.pin_at I4) hz fun s' J => ?_
    show PySem.wpAt _ _ _ _ _ _ _
    refine wpAt_of_wpAny ?_
    refine wpAny_mono (hrest.run _ s' _ H1 _ (ClX.unpin (ClX.unpin J)) q1) (fun fl s'' hs => ?_) fun e s'' hs => hs
    have fin : ∀ {σ' : L2.St} {H' : Hp} {v : V} {u : Value}, Inv (ncx CX P w K mg base N F f A outer s H E) [] σ' H' s'' → L2.RelV v u → Q v H' → CE outer P w H s Q u s'' :=
      fun {σ' H' v u} J rv q => ⟨v, H', J.os, J.bare, J.base, J.hok, rv, q⟩
    cases fl with
    | ret u =>
      obtain ⟨v, σ', H', J, rv, q⟩ := hs
      exact fin J rv q
    | next =>
      obtain ⟨σ', H', J, q⟩ := hs
      exact fin (v := V.non) (u := Value.none) J rfl q
    | brk =>
      obtain ⟨_, _, _, q⟩ := hs
      exact False.elim q
    | cont =>
      obtain ⟨_, _, _, q⟩ := hs
      exact False.elim q
end PyD
end
section
set_option Elab.async false
set_option linter.all false
set_option maxRecDepth 100000
set_option maxHeartbeats 2000000
namespace PyD
open PySem PySem.Spec PyProof.Rows L2 NdefX PySem.W
/-! ### the text of an exception -/
/-- what may stand in it: a short text, a number that is not large -/
def Fmt (v : V) : Prop := (∃ y : Str, v = .str y ∧ y.length ≤ 1000) ∨ ∃ i : Int, v = .int i ∧ 0 ≤ i ∧ i < 10 ^ 10
/-- an argument of super().__init__ that reads slot 1 at most -/
def ArgOk (x : Str) (fm : Bool) (arg : Expr) : Prop := ∀ (X : Cx), X.N[1]? = some x → Vis X.env.scope x → ∃ te, PE X arg te ∧ ∀ σ H v (Q : VK), σ[1]? = some (some v) → (fm = true → Fmt v) → (∀ y, Q (.str y) H) → te σ H Q
theorem log_lt {i : Int} (h0 : 0 ≤ i) (h : i < 10 ^ 10) : i.natAbs.log2 < 1920 := by
  have h1 : i.natAbs < 2 ^ 40 := by omega
  by_cases z : i.natAbs = 0
  · rw [z]; decide
  · exact Nat.lt_of_lt_of_le ((Nat.log2_lt z).mpr h1) (by decide)
theorem argOk_c {x z : Str} {j : Nat} {p : Pos} : ArgOk x false (.Constant (.str z) j p) := fun X _ _ => ⟨_, pe_str, fun σ H v Q _ _ h => h z⟩
theorem fmt_ok {σ : L2.St} {H : Hp} {v : V} {Q : VK} (h1 : σ[1]? = some (some v)) (f : Fmt v) (h : ∀ y : Str, y.length ≤ 1000 → Q (.str y) H) : tFmt (tVar 1) σ H Q := by
  refine ⟨v, h1, ?_⟩
  rcases f with ⟨y, rfl, hy⟩ | ⟨i, rfl, h0, hi⟩
  · exact .inl ⟨y, rfl, Nat.le_trans hy (by decide), h y hy⟩
  · exact .inr ⟨i, rfl, log_lt h0 hi, h _ (Nat.le_trans (toString_length_le h0 (by decide) hi) (by decide))⟩
theorem argOk_f {x z1 z2 : Str} {j1 j2 : Nat} {p1 p2 p3 p4 p5 : Pos} (h1 : z1.length ≤ 1000) (h2 : z2.length ≤ 1000) (hd : (x == ("__debug__" : Str)) = false) (hcd : (x == ("__classdict__" : Str)) = false) :
    ArgOk x true (.JoinedStr [.Constant (.str z1) j1 p1, .FormattedValue (.Name x p2) (-1) none p3, .Constant (.str z2) j2 p4] p5) := fun X hN hV => by
  refine ⟨_, pe_joined (.cons pe_str (.cons (pe_fmt (pe_var hN hV hd hcd)) (.cons pe_str .nil))), fun σ H v Q hv f h => ?_⟩
  have len : ∀ a b : Str, (a ++ b).length = a.length + b.length := fun a b => by
    show (a.cps ++ b.cps).size = _
    rw [Array.size_append]
    rfl
  have e0 : (Str.empty).length = 0 := rfl
  have big : 3001 ≤ sizeLine := by decide
  refine ⟨z1, rfl, by rw [len, e0]; omega, fmt_ok hv (f rfl) fun y hy => ⟨y, rfl, by rw [len, len, e0]; omega, z2, rfl, by rw [len, len, len, e0]; omega, h _⟩⟩
/-- the promise of such an __init__: self gets the one field -/
def spX1 (K : PySem.W.Frag) (D : Addr) (fm : Bool) (fld : Str) : Sp := fun vs H Q _ => ∃ a C v, vs = [.ref a, v] ∧ SupC K C D ∧ PySem.W.findIn K (.ref C) fld = some none ∧ H a = some (exo a C none) ∧ (fm = true → Fmt v) ∧
  ∀ dx, H dx = none → dx ≠ a → Q .non (upd (upd H dx (exd dx [(fld, v)])) a (exo a C (some dx)))
theorem fn_exc1 {CX : CXT} {P : Program} {w : World} {K : PySem.W.Frag} {mg : Str → Option Value} {base : Heap} {N : List Str} {F : NF} {f D cc : Addr} {k : Nat} {doc pm ctv : Value} {slf x : Str} {p0 p1 p2 p3 p4 p5 p6 p7 p8 : Pos} {arg : Expr} {fm : Bool}
    (lk : ∃ oc od osl, K.lookup f = some ⟨oc, od, .func (F.fd doc pm ctv), osl⟩) (Fc : SupF P K mg f D cc F) (S : NScope N [slf, x] ["__class__"] F.scope)
    (hbd : F.body = [.Expr (.Call (.Attribute (.Call (.Name "super" p0) [] [] p1) "__init__" p2) [arg] [] p3) p4, .Assign [.Attribute (.Name slf p5) x p6] (.Name x p7) p8])
    (hpar : ((F.params.posonlyargs ++ F.params.args).head?).map (·.arg) = some slf) (hks : F.scope.names.lookup ("super" : Str) = some .globalImplicit)
    (hb : ∀ us : List Value, us.length = 2 → bindArgs (F.fd doc pm ctv) ⟨us, []⟩ = pure (([slf, x] : List Str).zip us))
    (hstar : ∀ env : Env, starEach [arg] env = (false, eval arg env) :: starEach [] env)
    (hcall : ∀ env : Env, ∃ pl : Sem Bool, eval (.Call (.Attribute (.Call (.Name "super" p0) [] [] p1) "__init__" p2) [arg] [] p3) env = (do
      let ov ← attributeBase (.Call (.Name "super" p0) [] [] p1) "__init__" env (eval (.Call (.Name "super" p0) [] [] p1) env)
      standAt p2.atName
      let (f, first) ← holding [ov] (getMethod ov "__init__" pl)
      callWith p3 f first (backTo p3 (starEach [arg] env)) []))
    (ds : (slf == ("__debug__" : Str)) = false) (cs : (slf == ("__classdict__" : Str)) = false) (dx : (x == ("__debug__" : Str)) = false) (cx : (x == ("__classdict__" : Str)) = false) (A : ArgOk x fm arg) :
    FnOk P w K mg base CX (k + 1) f (F.fd doc pm ctv) [slf, x] (spX1 K D fm x) := by
  have hN0 : N[0]? = some slf := by
    have q := S.pre
    have e : (N.take 3)[0]? = some slf := by rw [show (3 : Nat) = [slf, x].length + [("__class__" : Str)].length from rfl, q]; rfl
    rw [List.getElem?_take_of_lt (by decide)] at e
    exact e
  have hN1 : N[1]? = some x := by
    have q := S.pre
    have e : (N.take 3)[1]? = some x := by rw [show (3 : Nat) = [slf, x].length + [("__class__" : Str)].length from rfl, q]; rfl
    rw [List.getElem?_take_of_lt (by decide)] at e
    exact e
  refine fn_sup (slf := slf) (p0 := p0) (p1 := p1) (p2 := p2) (p3 := p3) (p4 := p4) lk Fc S hbd rfl hpar hks hb (fun vs H Q E h => ?_) hstar hcall fun A' outer s H vs Q E hr h => ?_
  · obtain ⟨a, C, v, rfl, _⟩ := h
    rfl
  · obtain ⟨a, C, v, rfl, SC, hno, ha, hf, hq⟩ := h
    have v0 : Vis (ncx CX P w K mg base N F f A' outer s H E).env.scope slf := .inl (S.par slf (by simp))
    have v1 : Vis (ncx CX P w K mg base N F f A' outer s H E).env.scope x := .inl (S.par x (by simp))
    obtain ⟨te, hte, q⟩ := A (ncx CX P w K mg base N F f A' outer s H E) hN1 v1
    refine ⟨_, _, a, rfl, pa_cons hte pa_nil (hstar _), pss_one (ps_ost (pe_var (i := 0) hN0 v0 ds cs) (pe_var (i := 1) hN1 v1 dx cx)), C, SC, ha, ?_⟩
    have e1 : (startF N [V.ref a, v] [some (.ref D)])[1]? = some (some v) := rfl
    have e0 : (startF N [V.ref a, v] [some (.ref D)])[0]? = some (some (.ref a)) := rfl
    refine q _ _ v _ e1 hf fun y => ?_
    refine ⟨by simp, ha, v, e1, .ref a, e0, a, C, rfl, SC.ox, hno, .inl ⟨ha, fun dx n ne => hq dx n ne⟩⟩
end PyD
end
section
set_option Elab.async false
set_option linter.all false
set_option maxRecDepth 100000
set_option maxHeartbeats 2000000
namespace PyD
open PySem PySem.Spec PyProof.Rows L2

/-! ### data as plain values -/
inductive D where
  | non | bl (b : Bool) | int (i : Int) | str (s : Str) | tup (xs : List D) | lst (xs : List D) | iset (xs : List Int)
  | ins (c : Str) (fs : List (Str × D))

/-- what belongs to the holder alone: nothing (sh); the list itself and, of each item, o; of a tuple's places -/
inductive Ow where
  | sh | lst (o : Ow) | tup (os : List Ow) | ino
abbrev Sl := Ow × D
abbrev DEnv := List (Option Sl)
structure Exn where
  cls : Str
  fs : List (Str × D)

/-! ### how the abstract heap bears a datum -/
structure Ki where
  K : PySem.W.Frag
  w : World
  cl : Str → Option Addr
  me : V

mutual
inductive Rep (k : Ki) (F : Hp) : D → V → Prop where
  | non : Rep k F .non .non
  | bl (b : Bool) : Rep k F (.bl b) (.bl b)
  | int (i : Int) : Rep k F (.int i) (.int i)
  | str (s : Str) : Rep k F (.str s) (.str s)
  | tup {a : Addr} {vs : List V} {ds : List D} (h : SqT k.K F a vs) (r : Reps k F ds vs) : Rep k F (.tup ds) (.ref a)
  | lst {a : Addr} {vs : List V} {ds : List D} (h : SqL k.K F a vs) (r : Reps k F ds vs) : Rep k F (.lst ds) (.ref a)
  | iset {a : Addr} {ns : List Int} {S : Int → Bool} (h : F a = some (SetO k.w a S ns.length)) (hS : ∀ j, S j = true ↔ j ∈ ns) (hn : ns.Pairwise (· < ·)) : Rep k F (.iset ns) (.ref a)
  | ins {a C dx : Addr} {vfs : List (Str × V)} {c : Str} {fs : List (Str × D)} (hc : k.cl c = some C) (hk : Cls k.K C ∧ ∀ p ∈ fs, NoAttr k.K C p.1) (h : F a = some (.ins C dx vfs)) (r : RepF k F fs vfs) : Rep k F (.ins c fs) (.ref a)
inductive Reps (k : Ki) (F : Hp) : List D → List V → Prop where
  | nil : Reps k F [] []
  | cons {d : D} {v : V} {ds : List D} {vs : List V} (h : Rep k F d v) (t : Reps k F ds vs) : Reps k F (d :: ds) (v :: vs)
inductive RepF (k : Ki) (F : Hp) : List (Str × D) → List (Str × V) → Prop where
  | nil : RepF k F [] []
  | cons {x : Str} {d : D} {v : V} {ds : List (Str × D)} {vs : List (Str × V)} (h : Rep k F d v) (t : RepF k F ds vs) : RepF k F ((x, d) :: ds) ((x, v) :: vs)
end
theorem seqT {K : PySem.W.Frag} {H H' : Hp} {a : Addr} {xs : List V} (e : Same H H') (h : SqT K H a xs) : SqT K H' a xs := by
  rcases h with (h | ⟨o, h⟩) | h
  · exact .inl (.inl (e _ _ h))
  · exact .inl (.inr ⟨o, e _ _ h⟩)
  · exact .inr h
theorem rdS {H H' : Hp} {a : Addr} {o : HO} (e : Same H H') (h : Rd H a o) : Rd H' a o := by
  rcases h with h | ⟨u, h⟩
  · exact .inl (e _ _ h)
  · exact .inr ⟨u, e _ _ h⟩
mutual
theorem Rep.mono {k : Ki} {F F' : Hp} (e : Same F F') : ∀ {d : D} {v : V}, Rep k F d v → Rep k F' d v
  | _, _, .non => .non
  | _, _, .bl b => .bl b
  | _, _, .int i => .int i
  | _, _, .str s => .str s
  | _, _, .tup h r => .tup (seqT e h) (Reps.mono e r)
  | _, _, .lst h r => .lst (e.seq h) (Reps.mono e r)
  | _, _, .iset h a b => .iset (e _ _ h) a b
  | _, _, .ins hc hk h r => .ins hc hk (e _ _ h) (RepF.mono e r)
theorem Reps.mono {k : Ki} {F F' : Hp} (e : Same F F') : ∀ {d : List D} {v : List V}, Reps k F d v → Reps k F' d v
  | _, _, .nil => .nil
  | _, _, .cons h t => .cons (Rep.mono e h) (Reps.mono e t)
theorem RepF.mono {k : Ki} {F F' : Hp} (e : Same F F') : ∀ {d : List (Str × D)} {v : List (Str × V)}, RepF k F d v → RepF k F' d v
  | _, _, .nil => .nil
  | _, _, .cons h t => .cons (Rep.mono e h) (RepF.mono e t)
end
abbrev OL := List (Addr × HO)
mutual
inductive RepO (k : Ki) (F : Hp) : Ow → OL → D → V → Prop where
  | sh {d : D} {v : V} (h : Rep k F d v) : RepO k F .sh [] d v
  | lst {o : Ow} {O : OL} {a : Addr} {vs : List V} {ds : List D} (r : RepOl k F o O ds vs) : RepO k F (.lst o) ((a, .lst vs) :: O) (.lst ds) (.ref a)
  | tup {os : List Ow} {O : OL} {a : Addr} {vs : List V} {ds : List D} (h : SqT k.K F a vs) (r : RepOt k F os O ds vs) : RepO k F (.tup os) O (.tup ds) (.ref a)
  | ino {a C dx : Addr} {vfs : List (Str × V)} {c : Str} {fs : List (Str × D)} (hc : k.cl c = some C) (hk : Cls k.K C ∧ ∀ p ∈ fs, NoAttr k.K C p.1) (hm : k.me = .ref a) (r : RepF k F fs vfs) : RepO k F .ino [(a, .ins C dx vfs), (dx, .own a)] (.ins c fs) (.ref a)
inductive RepOl (k : Ki) (F : Hp) : Ow → OL → List D → List V → Prop where
  | nil {o : Ow} : RepOl k F o [] [] []
  | cons {o : Ow} {O O' : OL} {d : D} {v : V} {ds : List D} {vs : List V} (h : RepO k F o O d v) (t : RepOl k F o O' ds vs) : RepOl k F o (O ++ O') (d :: ds) (v :: vs)
inductive RepOt (k : Ki) (F : Hp) : List Ow → OL → List D → List V → Prop where
  | nil : RepOt k F [] [] [] []
  | cons {o : Ow} {os : List Ow} {O O' : OL} {d : D} {v : V} {ds : List D} {vs : List V} (h : RepO k F o O d v) (t : RepOt k F os O' ds vs) : RepOt k F (o :: os) (O ++ O') (d :: ds) (v :: vs)
end
mutual
theorem RepO.mono {k : Ki} {F F' : Hp} (e : Same F F') : ∀ {o : Ow} {O : OL} {d : D} {v : V}, RepO k F o O d v → RepO k F' o O d v
  | _, _, _, _, .sh h => .sh (h.mono e)
  | _, _, _, _, .lst r => .lst (RepOl.mono e r)
  | _, _, _, _, .tup h r => .tup (seqT e h) (RepOt.mono e r)
  | _, _, _, _, .ino hc hk hm r => .ino hc hk hm (RepF.mono e r)
theorem RepOl.mono {k : Ki} {F F' : Hp} (e : Same F F') : ∀ {o : Ow} {O : OL} {d : List D} {v : List V}, RepOl k F o O d v → RepOl k F' o O d v
  | _, _, _, _, .nil => .nil
  | _, _, _, _, .cons h t => .cons (RepO.mono e h) (RepOl.mono e t)
theorem RepOt.mono {k : Ki} {F F' : Hp} (e : Same F F') : ∀ {o : List Ow} {O : OL} {d : List D} {v : List V}, RepOt k F o O d v → RepOt k F' o O d v
  | _, _, _, _, .nil => .nil
  | _, _, _, _, .cons h t => .cons (RepO.mono e h) (RepOt.mono e t)
end
/-! a frozen part grows, the rest stands -/
structure Ext (F H F' H' : Hp) (O : OL) : Prop where
  sF : Same F F'
  sH : Same H H'
  ag : ∀ a, H a ≠ none → F' a = F a
  fh : Same F' H'
  own : ∀ p ∈ O, H p.1 = none ∧ H' p.1 = some p.2 ∧ F' p.1 = none
  nd : (O.map (·.1)).Nodup
theorem Ext.refl {F H : Hp} (s : Same F H) : Ext F H F H [] := ⟨Same.refl _, Same.refl _, fun _ _ => rfl, s, (fun _ h => nomatch h), List.nodup_nil⟩
theorem some_of_ne {α : Type} {x : Option α} (h : x ≠ none) : ∃ y, x = some y := by
  cases x with
  | none => exact absurd rfl h
  | some y => exact ⟨y, rfl⟩
theorem Ext.trans {F H F1 H1 F2 H2 : Hp} {O O' : OL} (a : Ext F H F1 H1 O) (b : Ext F1 H1 F2 H2 O') : Ext F H F2 H2 (O' ++ O) := by
  have up : ∀ x, H x ≠ none → H1 x ≠ none := fun x h => by
    obtain ⟨y, e⟩ := some_of_ne h
    rw [a.sH _ _ e]; exact fun z => nomatch z
  refine ⟨a.sF.trans b.sF, a.sH.trans b.sH, fun x h => (b.ag x (up x h)).trans (a.ag x h), b.fh, fun p hp => ?_, ?_⟩
  · rcases List.mem_append.mp hp with h | h
    · obtain ⟨h1, h2, h3⟩ := b.own p h
      exact ⟨a.sH.free h1, h2, h3⟩
    · obtain ⟨h1, h2, h3⟩ := a.own p h
      exact ⟨h1, b.sH _ _ h2, by rw [b.ag _ (by rw [h2]; exact fun z => nomatch z)]; exact h3⟩
  · rw [List.map_append, List.nodup_append]
    refine ⟨b.nd, a.nd, fun x hx y hy e => ?_⟩
    obtain ⟨p, hp, rfl⟩ := List.mem_map.mp hx
    obtain ⟨q, hq, rfl⟩ := List.mem_map.mp hy
    have h1 := (b.own p hp).1
    rw [e, (a.own q hq).2.1] at h1
    cases h1
theorem Ext.sub {F H F' H' : Hp} {O O' : OL} (a : Ext F H F' H' O) (h : ∀ p ∈ O', p ∈ O) (n : (O'.map (·.1)).Nodup) : Ext F H F' H' O' :=
  ⟨a.sF, a.sH, a.ag, a.fh, fun p hp => a.own p (h p hp), n⟩
/-- some of what is owned is frozen -/
def frz (F : Hp) (O : OL) : Hp := fun a => match O.lookup a with | some o => some o | none => F a
theorem lookup_mem {α : Type} : ∀ {O : List (Addr × α)} {a : Addr} {o : α}, O.lookup a = some o → (a, o) ∈ O
  | [], _, _, h => by cases h
  | (b, u) :: O, a, o, h => by
    rw [List.lookup_cons] at h
    by_cases e : a = b
    · subst e
      simp at h
      subst h
      exact List.mem_cons_self
    · have : (a == b) = false := by simp [e]
      rw [this] at h
      exact List.mem_cons_of_mem _ (lookup_mem h)
theorem mem_lookup' {α : Type} : ∀ {O : List (Addr × α)} {p : Addr × α}, (O.map (·.1)).Nodup → p ∈ O → O.lookup p.1 = some p.2
  | (b, u) :: O, p, n, h => by
    rw [List.map_cons, List.nodup_cons] at n
    rw [List.lookup_cons]
    rcases List.mem_cons.mp h with e | h
    · subst e; simp
    · have : (p.1 == b) = false := by
        simp only [beq_eq_false_iff_ne, ne_eq]
        intro e
        exact n.1 (e ▸ List.mem_map.mpr ⟨p, h, rfl⟩)
      rw [this]
      exact mem_lookup' n.2 h
theorem frz_same {F : Hp} {O : OL} (h : ∀ p ∈ O, F p.1 = none) : Same F (frz F O) := fun a o e => by
  unfold frz
  cases q : O.lookup a with
  | none => exact e
  | some u =>
    have := h _ (lookup_mem q)
    rw [e] at this; cases this
theorem frz_at {F : Hp} {O : OL} (n : (O.map (·.1)).Nodup) {p : Addr × HO} (h : p ∈ O) : frz F O p.1 = some p.2 := by
  unfold frz
  rw [mem_lookup' n h]
theorem frz_ne {F : Hp} {O : OL} {a : Addr} (h : a ∉ O.map (·.1)) : frz F O a = F a := by
  unfold frz
  cases q : O.lookup a with
  | none => rfl
  | some u => exact absurd (List.mem_map.mpr ⟨_, lookup_mem q, rfl⟩) h
theorem Ext.freeze {F H F' H' : Hp} {A B : OL} (e : Ext F H F' H' (A ++ B)) : Ext F H (frz F' A) H' B := by
  have n := e.nd
  rw [List.map_append, List.nodup_append] at n
  have hA : ∀ p ∈ A, F' p.1 = none := fun p hp => (e.own p (List.mem_append_left _ hp)).2.2
  refine ⟨e.sF.trans (frz_same hA), e.sH, fun a h => ?_, fun a o h => ?_, fun p hp => ?_, n.2.1⟩
  · rw [frz_ne]
    · exact e.ag a h
    · intro m
      obtain ⟨p, hp, rfl⟩ := List.mem_map.mp m
      exact h (e.own p (List.mem_append_left _ hp)).1
  · unfold frz at h
    cases q : A.lookup a with
    | none => rw [q] at h; exact e.fh a o h
    | some u =>
      rw [q] at h; cases h
      exact (e.own _ (List.mem_append_left _ (lookup_mem q))).2.1
  · obtain ⟨h1, h2, h3⟩ := e.own p (List.mem_append_right _ hp)
    refine ⟨h1, h2, ?_⟩
    rw [frz_ne]
    · exact h3
    · intro m
      exact n.2.2 _ m _ (List.mem_map.mpr ⟨p, hp, rfl⟩) rfl
mutual
theorem RepO.frz {k : Ki} {F F' : Hp} (e : Same F F') : ∀ {o : Ow} {O : OL} {d : D} {v : V}, RepO k F o O d v → (∀ p ∈ O, F' p.1 = some p.2) → Rep k F' d v
  | _, _, _, _, .sh h, _ => h.mono e
  | _, _, _, _, .lst r, q => .lst (.inl (.inl (q _ List.mem_cons_self))) (RepOl.frz e r fun p hp => q p (List.mem_cons_of_mem _ hp))
  | _, _, _, _, .tup h r, q => .tup (seqT e h) (RepOt.frz e r q)
  | _, _, _, _, .ino hc hk _ r, q => .ins hc hk (q _ List.mem_cons_self) (r.mono e)
theorem RepOl.frz {k : Ki} {F F' : Hp} (e : Same F F') : ∀ {o : Ow} {O : OL} {d : List D} {v : List V}, RepOl k F o O d v → (∀ p ∈ O, F' p.1 = some p.2) → Reps k F' d v
  | _, _, _, _, .nil, _ => .nil
  | _, _, _, _, .cons h t, q => .cons (RepO.frz e h fun p hp => q p (List.mem_append_left _ hp)) (RepOl.frz e t fun p hp => q p (List.mem_append_right _ hp))
theorem RepOt.frz {k : Ki} {F F' : Hp} (e : Same F F') : ∀ {o : List Ow} {O : OL} {d : List D} {v : List V}, RepOt k F o O d v → (∀ p ∈ O, F' p.1 = some p.2) → Reps k F' d v
  | _, _, _, _, .nil, _ => .nil
  | _, _, _, _, .cons h t, q => .cons (RepO.frz e h fun p hp => q p (List.mem_append_left _ hp)) (RepOt.frz e t fun p hp => q p (List.mem_append_right _ hp))
end
/-! slots -/
inductive EnvRep (k : Ki) (F : Hp) : OL → DEnv → L2.St → Prop where
  | nil : EnvRep k F [] [] []
  | un {O : OL} {env : DEnv} {x : Option V} {σ : L2.St} (t : EnvRep k F O env σ) : EnvRep k F O (none :: env) (x :: σ)
  | val {O O' : OL} {env : DEnv} {o : Ow} {d : D} {v : V} {σ : L2.St} (h : RepO k F o O d v) (t : EnvRep k F O' env σ) : EnvRep k F (O ++ O') (some (o, d) :: env) (some v :: σ)
theorem EnvRep.mono {k : Ki} {F F' : Hp} (e : Same F F') : ∀ {O : OL} {env : DEnv} {σ : L2.St}, EnvRep k F O env σ → EnvRep k F' O env σ
  | _, _, _, .nil => .nil
  | _, _, _, .un t => .un (EnvRep.mono e t)
  | _, _, _, .val h t => .val (h.mono e) (EnvRep.mono e t)
theorem EnvRep.length {k : Ki} {F : Hp} : ∀ {O : OL} {env : DEnv} {σ : L2.St}, EnvRep k F O env σ → env.length = σ.length
  | _, _, _, .nil => rfl
  | _, _, _, .un t => by rw [List.length_cons, List.length_cons, t.length]
  | _, _, _, .val _ t => by rw [List.length_cons, List.length_cons, t.length]
/-- one slot, and the others -/
theorem EnvRep.slot {k : Ki} {F : Hp} : ∀ {O : OL} {env : DEnv} {σ : L2.St} {i : Nat} {o : Ow} {d : D}, EnvRep k F O env σ → env[i]? = some (some (o, d)) →
    ∃ A B C v, O = A ++ (B ++ C) ∧ σ[i]? = some (some v) ∧ RepO k F o B d v ∧
      (∀ F' o' d' B' v', Same F F' → RepO k F' o' B' d' v' → EnvRep k F' (A ++ (B' ++ C)) (env.set i (some (o', d'))) (σ.set i (some v'))) ∧ (∀ x, EnvRep k F (A ++ C) (env.set i none) (σ.set i x))
  | _, _, _, 0, _, _, .un _, h => by simp at h
  | _, _, _, 0, o, d, .val (O := O) (O' := O') h t, e => by
    simp at e
    obtain ⟨rfl, rfl⟩ := e
    exact ⟨[], O, O', _, rfl, rfl, h, fun F' o' d' B' v' s r => (show EnvRep k F' (B' ++ O') _ _ from .val r (t.mono s)), fun x => .un t⟩
  | _, _, _, i + 1, _, _, .un t, e => by
    obtain ⟨A, B, C, v, e1, e2, r, f, g⟩ := t.slot (i := i) (by simpa using e)
    exact ⟨A, B, C, v, e1, by simpa using e2, r, fun F' o' d' B' v' s r' => .un (f F' o' d' B' v' s r'), fun x => .un (g x)⟩
  | _, _, _, i + 1, _, _, .val (O := O) h t, e => by
    obtain ⟨A, B, C, v, e1, e2, r, f, g⟩ := t.slot (i := i) (by simpa using e)
    refine ⟨O ++ A, B, C, v, by rw [e1, List.append_assoc], by simpa using e2, r, fun F' o' d' B' v' s r' => ?_, fun x => ?_⟩
    · rw [List.append_assoc]; exact .val (h.mono s) (f F' o' d' B' v' s r')
    · rw [List.append_assoc]; exact .val h (g x)
/-- any slot is stored anew -/
theorem EnvRep.put {k : Ki} {F F' : Hp} {O : OL} {env : DEnv} {σ : L2.St} {i : Nat} {o : Ow} {d : D} {B : OL} {v : V} (r : EnvRep k F O env σ) (hi : i < env.length) (s : Same F F') (h : RepO k F' o B d v) :
    ∃ A C, (∀ p ∈ A ++ C, p ∈ O) ∧ ((A ++ C).Sublist O) ∧ EnvRep k F' (A ++ (B ++ C)) (env.set i (some (o, d))) (σ.set i (some v)) := by
  induction r generalizing i with
  | nil => simp at hi
  | un t ih =>
    cases i with
    | zero => exact ⟨[], _, (fun p hp => hp), List.Sublist.refl _, (show EnvRep k F' (B ++ _) _ _ from .val h (t.mono s))⟩
    | succ i =>
      obtain ⟨A, C, h1, h2, h3⟩ := ih (i := i) (by simpa using hi)
      exact ⟨A, C, h1, h2, .un h3⟩
  | @val O1 O2 env1 o1 d1 v1 σ1 h' t ih =>
    cases i with
    | zero => exact ⟨[], _, (fun p hp => List.mem_append_right _ hp), List.sublist_append_right _ _, (show EnvRep k F' (B ++ _) _ _ from .val h (t.mono s))⟩
    | succ i =>
      obtain ⟨A, C, h1, h2, h3⟩ := ih (i := i) (by simpa using hi)
      refine ⟨O1 ++ A, C, fun p hp => ?_, ?_, ?_⟩
      · rw [List.append_assoc] at hp
        rcases List.mem_append.mp hp with z | z
        · exact List.mem_append_left _ z
        · exact List.mem_append_right _ (h1 p z)
      · rw [List.append_assoc]; exact (List.Sublist.refl _).append h2
      · rw [List.append_assoc]; exact .val (h'.mono s) h3
end PyD
end
section
set_option Elab.async false
set_option linter.all false
set_option maxRecDepth 100000
set_option maxHeartbeats 2000000
namespace PyD
open PySem PySem.Spec PyProof.Rows L2

/-! ### what a piece of text gives: a datum, an exception, or no answer is known -/
inductive R (α : Type) where
  | ok (a : α) | exc (e : Exn) | bad
def R.bind {α β : Type} (x : R α) (f : α → R β) : R β := match x with
  | .ok a => f a
  | .exc e => .exc e
  | .bad => .bad
@[simp] theorem R.bind_ok {α β : Type} (a : α) (f : α → R β) : (R.ok a).bind f = f a := rfl
@[simp] theorem R.bind_exc {α β : Type} (e : Exn) (f : α → R β) : (R.exc e).bind f = .exc e := rfl
@[simp] theorem R.bind_bad {α β : Type} (f : α → R β) : (R.bad).bind f = .bad := rfl
def R.need {α : Type} (o : Option α) : R α := match o with
  | some a => .ok a
  | none => .bad
@[simp] theorem R.need_some {α : Type} (a : α) : R.need (some a) = .ok a := rfl
@[simp] theorem R.need_none {α : Type} : R.need (none : Option α) = .bad := rfl
theorem R.bind_eq_ok {α β : Type} {x : R α} {f : α → R β} {b : β} (h : x.bind f = .ok b) : ∃ a, x = .ok a ∧ f a = .ok b := by
  cases x with
  | ok a => exact ⟨a, rfl, h⟩
  | exc e => cases h
  | bad => cases h

structure Sg where
  n : Nat
  ret : Ow
  al : Bool := false
  kw : List Str := []
/-- of a class: the names that are no attribute of it (fields) -/
structure Ci where
  no : List Str
/-- of an own exception class: its one field, if it has one; whether its text shows it -/
structure Xi where
  fm : Bool
  fld : Option Str
/-- of a text: its constants, its classes, its exceptions -/
structure Md where
  c : Str → Option D
  k : Str → Option Ci
  x : Str → Option Xi
/-- what stands around an expression -/
structure Tb where
  N : List Str
  sc : Scope
  sg : Str → Option Sg
  call : Str → List D → R D
  gl : Str → Option D
  cls : Str → Option Ci
  exc : Str → Option Xi
  nw : Str → Option Sg
  dp : List Nat
  ret : Ow

def ixOf (x : Str) : List Str → Option Nat
  | [] => none
  | y :: r => if x = y then some 0 else (ixOf x r).map (· + 1)
def visB (sc : Scope) (x : Str) : Bool := match sc.names.lookup x with
  | some .local => true
  | some .cell => true
  | some .free => true
  | _ => false
def locB (sc : Scope) (x : Str) : Bool := match sc.names.lookup x with
  | some .local => true
  | some .cell => true
  | _ => false
def glB (sc : Scope) (x : Str) : Bool := match sc.names.lookup x with
  | some .globalImplicit => true
  | _ => false
def okName (x : Str) : Bool := !(x == ("__debug__" : Str)) && !(x == ("__classdict__" : Str)) && !(x == ("__name__" : Str))
def slotOf (T : Tb) (x : Str) : Option Nat := if visB T.sc x && okName x then ixOf x T.N else none
def varB (i : Nat) (env : DEnv) : R Sl := match env[i]? with
  | some (some s) => .ok s
  | _ => .bad
def Sl.asSh (s : Sl) : R Sl := match s.1 with
  | .sh => .ok s
  | _ => .bad
def varE (i : Nat) (env : DEnv) : R Sl := (varB i env).bind Sl.asSh

def Ow.isSh : Ow → Bool
  | .sh => true
  | _ => false
mutual
/-- lists and tuples alone -/
def Ow.ok : Ow → Bool
  | .sh => true
  | .lst o => Ow.ok o
  | .tup os => Ow.oks os
  | .ino => false
def Ow.oks : List Ow → Bool
  | [] => true
  | o :: r => Ow.ok o && Ow.oks r
end
mutual
def owEq : Ow → Ow → Bool
  | .sh, .sh => true
  | .lst a, .lst b => owEq a b
  | .tup a, .tup b => owEqs a b
  | _, _ => false
def owEqs : List Ow → List Ow → Bool
  | [], [] => true
  | a :: r, b :: q => owEq a b && owEqs r q
  | _, _ => false
end
/-- the items are shared -/
def Ow.flat : Ow → Bool
  | .sh => true
  | .lst o => o.isSh
  | .tup os => os.all Ow.isSh
  | .ino => false

/-! ### operations -/
def intsOf : List D → Option (List Int)
  | [] => some []
  | .int i :: r => (intsOf r).map (i :: ·)
  | _ :: _ => none
def insD (i : Int) : List Int → List Int
  | [] => [i]
  | j :: r => if i < j then i :: j :: r else if i = j then j :: r else j :: insD i r
def sdI (ns : List Int) : List Int := ns.foldr insD []
def mulOk (i j : Int) : Bool := (decide (-(2 ^ 64) < i) && decide (i < 2 ^ 64)) || (decide (-(2 ^ 64) < j) && decide (j < 2 ^ 64))

def binD (op : Operator) (x y : Sl) : R Sl := match op, x.2, y.2 with
  | .Add, .int i, .int j => .ok (.sh, .int (i + j))
  | .Sub, .int i, .int j => .ok (.sh, .int (i - j))
  | .Mult, .int i, .int j => if mulOk i j then .ok (.sh, .int (i * j)) else .bad
  | .FloorDiv, .int i, .int j => if decide (j ≠ 0) && decide (j.natAbs < 1073741824) then .ok (.sh, .int (i.fdiv j)) else .bad
  | .Mod, .int i, .int j => if decide (j ≠ 0) then .ok (.sh, .int (i.fmod j)) else .bad
  | .Pow, .int i, .int j => if decide (0 ≤ j) && decide (j ≤ 1000000) && decide (i.natAbs < 2 ^ 64) then .ok (.sh, .int (i ^ j.toNat)) else .bad
  | .Add, .lst xs, .lst ys => if x.1.flat && y.1.flat && decide (xs.length + ys.length ≤ sizeLine) then .ok (.lst .sh, .lst (xs ++ ys)) else .bad
  | .Add, .tup xs, .tup ys => if x.1.isSh && y.1.isSh && decide (xs.length + ys.length ≤ sizeLine) then .ok (.sh, .tup (xs ++ ys)) else .bad
  | _, _, _ => .bad

mutual
def D.py : D → Option PyData
  | .non => some .none
  | .bl b => some (.bool b)
  | .int i => some (.int i)
  | .str s => some (.str s)
  | .tup xs => (D.pys xs).map .tuple
  | .lst xs => (D.pys xs).map .list
  | .iset _ => none
  | .ins _ _ => none
def D.pys : List D → Option (List PyData)
  | [] => some []
  | x :: r => (D.py x).bind fun a => (D.pys r).map (a :: ·)
end
/-- ==, of data that == tells apart as data -/
def eqD (x y : D) : R Bool := match x, y with
  | .int i, .int j => .ok (decide (i = j))
  | .bl i, .bl j => .ok (decide (i = j))
  | .str i, .str j => .ok (decide (i = j))
  | .non, .non => .ok true
  | _, _ => match x.py, y.py with
    | some p, some q => if SeqAt.shaped p && SeqAt.shaped q then .ok (p.eqv q) else .bad
    | _, _ => .bad
def D.vf : D → Option V
  | .non => some .non
  | .bl b => some (.bl b)
  | .int i => some (.int i)
  | .str s => some (.str s)
  | _ => none
def D.vfs : List D → Option (List V)
  | [] => some []
  | x :: r => (D.vf x).bind fun a => (D.vfs r).map (a :: ·)
def items : D → Option (List D)
  | .lst xs => some xs
  | .tup xs => some xs
  | _ => none
/-- in, of data that are no plain values -/
def inP (x y : D) : R Bool := match x.py, (items y).bind D.pys with
  | some p, some qs => if SeqAt.shaped p && SeqAt.shaped (.list qs) then .ok (qs.any fun z => PyData.eqv z p) else .bad
  | _, _ => .bad
def inD (x y : D) : R Bool := match x.vf, (items y).bind D.vfs with
  | some a, some bs => .ok (inV a bs)
  | _, _ => inP x y
def isD (x y : D) : R Bool := match x, y with
  | x, .non => .ok (match x with | .non => true | _ => false)
  | .bl a, .bl b => .ok (decide (a = b))
  | .non, .bl _ => .ok false
  | .int _, .bl _ => .ok false
  | .str _, .bl _ => .ok false
  | .tup _, .bl _ => .ok false
  | .lst _, .bl _ => .ok false
  | .ins _ _, .bl _ => .ok false
  | _, _ => .bad
def cmpD (op : CmpOp) (x y : D) : R Bool := match op with
  | .Eq => eqD x y
  | .NotEq => (eqD x y).bind fun b => .ok (!b)
  | .In => inD x y
  | .NotIn => (inD x y).bind fun b => .ok (!b)
  | .Is => isD x y
  | .IsNot => (isD x y).bind fun b => .ok (!b)
  | .Lt => match x, y with
    | .int i, .int j => .ok (decide (i < j))
    | _, _ => .bad
  | .LtE => match x, y with
    | .int i, .int j => .ok (decide (i ≤ j))
    | _, _ => .bad
  | .Gt => match x, y with
    | .int i, .int j => .ok (decide (j < i))
    | _, _ => .bad
  | .GtE => match x, y with
    | .int i, .int j => .ok (decide (j ≤ i))
    | _, _ => .bad
def truD : D → R Bool
  | .non => .ok false
  | .bl b => .ok b
  | .int i => .ok (i != 0)
  | .lst xs => .ok (!xs.isEmpty)
  | .tup xs => .ok (!xs.isEmpty)
  | _ => .bad
/-- a place of a list or tuple: the item and what of it is the holder's -/
def subD (s : Sl) (i : D) : R Sl := match i, s.2 with
  | .int i, .lst xs => (R.need (atI xs i)).bind fun d => .ok (match s.1 with | .lst o => o | _ => .sh, d)
  | .int i, .tup xs => (R.need (atI xs i)).bind fun d => match s.1 with | .sh => .ok (.sh, d) | _ => .bad
  | _, _ => .bad

/-! ### builtins of one argument -/
inductive Bl where
  | len | abs | int | tuple | list | set | sorted | max | min | sum
def blOf (x : Str) : Option Bl :=
  if x = "len" then some .len else if x = "abs" then some .abs else if x = "int" then some .int else if x = "tuple" then some .tuple else if x = "list" then some .list
  else if x = "set" then some .set else if x = "sorted" then some .sorted else if x = "max" then some .max else if x = "min" then some .min else if x = "sum" then some .sum else none
def maxI : Int → List Int → Int
  | m, [] => m
  | m, x :: r => maxI (if m < x then x else m) r
def minI : Int → List Int → Int
  | m, [] => m
  | m, x :: r => minI (if x < m then x else m) r
def blD (b : Bl) (s : Sl) : R Sl := match b with
  | .len => match s.2 with
    | .lst xs => .ok (.sh, .int xs.length)
    | .tup xs => .ok (.sh, .int xs.length)
    | _ => .bad
  | .abs => match s.2 with
    | .int i => .ok (.sh, .int (if i < 0 then -i else i))
    | _ => .bad
  | .int => match s.2 with
    | .int i => .ok (.sh, .int i)
    | .bl k => .ok (.sh, .int (if k then 1 else 0))
    | _ => .bad
  | .tuple => match s.2 with
    | .lst xs => if s.1.flat then .ok (.sh, .tup xs) else .bad
    | .tup xs => if s.1.isSh then .ok (.sh, .tup xs) else .bad
    | _ => .bad
  | .list => match s.2 with
    | .lst xs => if s.1.flat then .ok (.lst .sh, .lst xs) else .bad
    | .tup xs => if s.1.isSh then .ok (.lst .sh, .lst xs) else .bad
    | _ => .bad
  | .set => match (items s.2).bind intsOf with
    | some ns => if decide (ns.length + 1 < scanBound) then .ok (.sh, .iset (sdI ns)) else .bad
    | none => .bad
  | .sorted => match s.2 with
    | .iset ns => if decide (ns.length < 64) then .ok (.lst .sh, .lst (ns.map D.int)) else .bad
    | .lst xs => match intsOf xs with
      | some ns => .ok (.lst .sh, .lst ((ns.mergeSort fun a b => decide (a ≤ b)).map D.int))
      | none => .bad
    | _ => .bad
  | .max => match (items s.2).bind intsOf with
    | some (n :: ns) => .ok (.sh, .int (maxI n ns))
    | _ => .bad
  | .min => match (items s.2).bind intsOf with
    | some (n :: ns) => .ok (.sh, .int (minI n ns))
    | _ => .bad
  | .sum => match s.2 with
    | .lst xs => match intsOf xs with
      | some ns => .ok (.sh, .int ns.sum)
      | _ => .bad
    | _ => .bad
/-- the type's name -/
def tyD : D → Option String
  | .non => some "NoneType"
  | .bl _ => some "bool"
  | .int _ => some "int"
  | .str _ => some "str"
  | .tup _ => some "tuple"
  | .lst _ => some "list"
  | _ => none
def tyOf (x : Str) : Option String :=
  if x = "int" then some "int" else if x = "bool" then some "bool" else if x = "str" then some "str" else if x = "tuple" then some "tuple" else if x = "list" then some "list" else none
def isiD (d : D) (t : Str) : R Sl := match tyD d, tyOf t with
  | some a, some b => (R.need (kitB a b)).bind fun r => .ok (.sh, .bl r)
  | _, _ => .bad
def indexD : List V → V → Nat → R Nat
  | [], _, _ => .bad
  | z :: r, y, n => if eqV z y then .ok n else indexD r y (n + 1)
/-! ### expressions -/
structure Sm where
  B : Tb → Expr → DEnv → R Sl
  E : Tb → Expr → DEnv → R Sl
  O : Tb → Expr → DEnv → R Sl
  T : Tb → Expr → DEnv → R Bool
abbrev Ev := DEnv → R Sl
/-- what is new is shared -/
def frzE (e : Ev) : Ev := fun env => (e env).bind fun s => .ok (.sh, s.2)
def listE (f : Expr → Ev) : List Expr → DEnv → R (List Sl)
  | [], _ => .ok []
  | e :: es, env => (f e env).bind fun x => (listE f es env).bind fun xs => .ok (x :: xs)
def binE (op : Operator) (a b : Ev) : Ev := fun env => (a env).bind fun x => (b env).bind fun y => binD op x y
def cmpE (op : CmpOp) (a b : Ev) : Ev := fun env => (a env).bind fun x => (b env).bind fun y => (cmpD op x.2 y.2).bind fun k => .ok (.sh, .bl k)
def blE (b : Bl) (a : Ev) : Ev := fun env => (a env).bind (blD b)
def isiE (a : Ev) (t : Str) : Ev := fun env => (a env).bind fun x => isiD x.2 t
def subE (a b : Ev) : Ev := fun env => (a env).bind fun x => (b env).bind fun y => subD x y.2
def indexP : List PyData → PyData → Nat → R Nat
  | [], _, _ => .bad
  | z :: r, y, n => if PyData.eqv z y then .ok n else indexP r y (n + 1)
/-- where an item stands that is no plain value -/
def idxP (xs : List D) (y : D) : R Sl := match y.py, D.pys xs with
  | some p, some qs => if SeqAt.shaped p && SeqAt.shaped (.list qs) then (indexP qs p 0).bind fun j => .ok (.sh, .int j) else .bad
  | _, _ => .bad
def idxE (a b : Ev) : Ev := fun env => (a env).bind fun x => match x.2 with
  | .lst xs => (b env).bind fun y => match y.2.vf with
    | some v => (R.need (D.vfs xs)).bind fun vs => (indexD vs v 0).bind fun j => .ok (.sh, .int j)
    | none => idxP xs y.2
  | _ => .bad
/-- the items of xs[lo:hi] -/
def cutL {α : Type} (xs : List α) (lo hi : Option Int) : List α := (xs.drop (HT.sIx xs.length 0 lo)).take (HT.sIx xs.length xs.length hi - HT.sIx xs.length 0 lo)
def sliD (s : Sl) (lo hi : Option Int) : R Sl := match s.2 with
  | .lst xs => if s.1.flat then .ok (.lst .sh, .lst (cutL xs lo hi)) else .bad
  | .tup xs => if s.1.isSh then .ok (.sh, .tup (cutL xs lo hi)) else .bad
  | _ => .bad
def partD (s : Sl) : R (Option Int) := match s.2 with
  | .int i => .ok (some i)
  | _ => .bad
def partE (e : Option Ev) : DEnv → R (Option Int) := match e with
  | none => fun _ => .ok none
  | some e => fun env => (e env).bind partD
def sliE (a : Ev) (lo hi : Option Ev) : Ev := fun env => (a env).bind fun x => (partE lo env).bind fun l => (partE hi env).bind fun h => sliD x l h
/-- max(a, b), min(a, b) -/
def mm2D (mx : Bool) (x y : Sl) : R Sl := match x.2, y.2 with
  | .int i, .int j => .ok (.sh, .int (if mx then (if j > i then j else i) else (if j < i then j else i)))
  | _, _ => .bad
def mm2E (mx : Bool) (a b : Ev) : Ev := fun env => (a env).bind fun x => (b env).bind fun y => mm2D mx x y
/-- list(range(n)), tuple(range(n)) -/
def rgD (tp : Bool) (s : Sl) : R Sl := match s.2 with
  | .int j => if decide (0 ≤ j) && decide (j ≤ 16777216) then (if tp then .ok (.sh, .tup ((List.range j.toNat).map fun i : Nat => D.int i)) else .ok (.lst .sh, .lst ((List.range j.toNat).map fun i : Nat => D.int i))) else .bad
  | _ => .bad
def rgE (tp : Bool) (a : Ev) : Ev := fun env => (a env).bind (rgD tp)
def notE (a : Ev) : Ev := fun env => (a env).bind fun x => match x.2 with | .bl b => .ok (.sh, .bl (!b)) | _ => .bad
def negE (a : Ev) : Ev := fun env => (a env).bind fun x => match x.2 with | .int i => .ok (.sh, .int (-i)) | _ => .bad
def ifE (c : DEnv → R Bool) (a b : Ev) : Ev := fun env => (c env).bind fun k => if k then a env else b env
def andE (a b : Ev) : Ev := fun env => (a env).bind fun x => match x.2 with | .bl true => b env | .bl false => .ok (.sh, .bl false) | _ => .bad
def orE (a b : Ev) : Ev := fun env => (a env).bind fun x => match x.2 with | .bl false => b env | .bl true => .ok (.sh, .bl true) | _ => .bad
def boolE (f : Expr → Ev) (op : BoolOp) : List Expr → Ev
  | [] => fun _ => .bad
  | [a] => f a
  | a :: b :: r => match op with
    | .And => andE (f a) (boolE f op (b :: r))
    | .Or => orE (f a) (boolE f op (b :: r))
def chainE (op op' : CmpOp) (a b c : Ev) : Ev := fun env => (a env).bind fun x => (b env).bind fun y => (cmpD op x.2 y.2).bind fun k =>
  if k then (c env).bind fun z => (cmpD op' y.2 z.2).bind fun k' => .ok (.sh, .bl k') else .ok (.sh, .bl false)
def star : Expr → Bool
  | .Starred .. => true
  | _ => false
def call0 : Expr → Bool
  | .Call (.Name _ _) [] [] _ => true
  | _ => false
/-- a list of one kind of ownership -/
def oneOw : List Sl → Option Ow
  | [] => some .sh
  | [s] => some s.1
  | s :: r => (oneOw r).bind fun o => if owEq s.1 o then some o else none
def lstO (f : Expr → Ev) (es : List Expr) : Ev := fun env => (listE f es env).bind fun xs => (R.need (oneOw xs)).bind fun o => if decide (xs.length ≤ sizeLine) then .ok (.lst o, .lst (xs.map (·.2))) else .bad
def lstE (f : Expr → Ev) (es : List Expr) : Ev := fun env => (listE f es env).bind fun xs => if xs.all (·.1.isSh) && decide (xs.length ≤ sizeLine) then .ok (.lst .sh, .lst (xs.map (·.2))) else .bad
def tupE (f : Expr → Ev) (es : List Expr) : Ev := fun env => (listE f es env).bind fun xs => if xs.all (·.1.isSh) && decide (xs.length ≤ sizeLine) then .ok (.sh, .tup (xs.map (·.2))) else .bad
/-- what may be handed on -/
def okArgs (g : Sg) (xs : List Sl) : Bool := if g.al then xs.all (·.1.isSh) else xs.all (·.1.ok)
def callE (T : Tb) (f : Str) (g : Sg) (h : Expr → Ev) (es : List Expr) : Ev := fun env => (listE h es env).bind fun xs => if decide (xs.length = g.n) && okArgs g xs then (T.call f (xs.map (·.2))).bind fun d => .ok (g.ret, d) else .bad

/-- what a comprehension walks: the items -/
inductive Src where
  | seq (f : Ev) | range (f : Ev)
def iterD (s : Sl) : R (List D) := if s.1.isSh then R.need (items s.2) else .bad
def rangeD : Sl → R (List D)
  | (_, .int j) => if decide (-(2 ^ 62) ≤ j) && decide (j < 2 ^ 62) then .ok ((List.range j.toNat).map fun i : Nat => D.int i) else .bad
  | _ => .bad
def Src.run : Src → DEnv → R (List D)
  | .seq f, env => (f env).bind iterD
  | .range f, env => (f env).bind rangeD
def isRange : Expr → Option Expr
  | .Call (.Name f _) [a] [] _ => if f = "range" then some a else none
  | _ => none
def srcOf (T : Tb) (s : Sm) (e : Expr) : Src := match isRange e with
  | some a => if glB T.sc "range" && !star a then .range (s.B T a) else .seq fun _ => .bad
  | none => .seq (frzE (s.E T e))
/-- a target that is a name -/
def setSlot (i : Nat) (d : Sl) (env : DEnv) : DEnv := env.set i (some d)
def wipeD (env : DEnv) : List Nat → DEnv
  | [] => env
  | i :: r => (wipeD env r).set i none
/-- a target takes an item that is shared -/
abbrev Tg := D → DEnv → R DEnv
def set1 (i : Nat) : Tg := fun d env => if decide (i < env.length) then .ok (setSlot i (.sh, d) env) else .bad
def putAll : List Nat → List D → DEnv → R DEnv
  | [], [], env => .ok env
  | i :: is, d :: ds, env => (set1 i d env).bind fun env => putAll is ds env
  | _, _, _ => .bad
def setN (is : List Nat) : Tg := fun d env => match d with
  | .tup ds => putAll is ds env
  | _ => .bad
def compR (st : Tg) (t : DEnv → R Bool) (e : Ev) (env : DEnv) : List D → R (List Sl)
  | [] => .ok []
  | x :: xs => (st x env).bind fun en => (t en).bind fun k => if k then (e en).bind fun y => (compR st t e env xs).bind fun ys => .ok (y :: ys) else compR st t e env xs
def noExc {α : Type} : R α → R α
  | .exc _ => .bad
  | x => x
def compG (src : Src) (st : Tg) (t : DEnv → R Bool) (e : Ev) (own : List Nat) : Ev := fun env => (src.run env).bind fun xs => if decide (xs.length ≤ sizeLine) then (noExc (compR st t e (wipeD env own) xs)).bind fun ys => (R.need (oneOw ys)).bind fun o => .ok (.lst o, .lst (ys.map (·.2))) else .bad
abbrev compE (src : Src) (i : Nat) (t : DEnv → R Bool) (e : Ev) (own : List Nat) : Ev := compG src (set1 i) t e own
/-- the slots of a target -/
def tgIx (N : List Str) (sc : Scope) : Expr → Option (List Nat × Tg)
  | .Name x _ => (ixOf x N).bind fun i => if locB sc x && okName x then some ([i], set1 i) else none
  | .Tuple es _ _ => (tgIxs N sc es).map fun is => (is, setN is)
  | _ => none
where tgIxs (N : List Str) (sc : Scope) : List Expr → Option (List Nat)
  | [] => some []
  | .Name x _ :: r => (ixOf x N).bind fun i => if locB sc x && okName x then (tgIxs N sc r).map (i :: ·) else none
  | _ :: _ => none
def ownOf (N : List Str) (sc : Scope) : List (Str × Nat) := sc.names.filterMap fun y => match y.2 with
  | .local => (ixOf y.1 N).map fun i => (y.1, i)
  | .cell => (ixOf y.1 N).map fun i => (y.1, i)
  | _ => none
def testsE (f : Expr → DEnv → R Bool) : List Expr → Option (DEnv → R Bool)
  | [] => some fun _ => .ok true
  | [c] => some (f c)
  | _ => none

/-- a field of an instance -/
def fldD (f : Str) (s : Sl) : R Sl := match s.2 with
  | .ins _ fs => (R.need (fs.lookup f)).bind fun d => .ok (.sh, d)
  | _ => .bad
def fldE (f : Str) (a : Ev) : Ev := fun env => (a env).bind (fldD f)
def plainBase : Expr → Bool
  | .Name .. => true
  | .Attribute .. => true
  | .Subscript .. => true
  | _ => false
def plainIx : Expr → Bool
  | .Slice .. => false
  | _ => true
def badE : Ev := fun _ => .bad
def constD : Const → Option D
  | .none => some .non
  | .bool b => some (.bl b)
  | .int i => some (.int i)
  | .str x => some (.str x)
  | _ => none
def nameE (T : Tb) (x : Str) : Ev := match slotOf T x with
  | some i => varE i
  | none => if glB T.sc x && okName x then match T.gl x with
    | some d => fun _ => .ok (.sh, d)
    | none => badE
    else badE
def isiArgs : List Expr → Option (Expr × Str)
  | [e, .Name t _] => some (e, t)
  | _ => none
/-- list(range(n)), tuple(range(n)): n -/
def rangeArg (f : Str) (a : Expr) : Option Expr := if f = "list" || f = "tuple" then isRange a else none
/-- positional and keyword-only arguments, in the order of the parameters -/
def kwNames : List Keyword → List (Option Str)
  | [] => []
  | q :: r => q.arg :: kwNames r
def kwVals : List Keyword → List Expr
  | [] => []
  | q :: r => q.value :: kwVals r
def fnE (T : Tb) (s : Sm) (f : Str) (g : Sg) (es : List Expr) (kws : List Keyword) : Ev :=
  if es.isEmpty || es.any star || !decide (kwNames kws = g.kw.map some) then badE else callE T f g (if g.al then (fun e => frzE (s.E T e)) else s.B T) (es ++ kwVals kws)
def callsE (T : Tb) (s : Sm) (f : Str) (es : List Expr) : Ev :=
  if !(glB T.sc f && okName f) then badE else
  match T.sg f with
  | some g => fnE T s f g es []
  | none => match T.nw f with
    | some g => fnE T s f g es []
    | none => if f = "isinstance" then match isiArgs es with
        | some (e, t) => if glB T.sc t && okName t && !star e && (tyOf t).isSome then isiE (s.B T e) t else badE
        | none => badE
      else match es with
        | [a] => match rangeArg f a with
          | some n => if glB T.sc "range" && !star n then rgE (f = "tuple") (s.B T n) else badE
          | none => match blOf f with
            | some b => if star a then badE else blE b (s.B T a)
            | _ => badE
        | [a, b] => if (f = "max" || f = "min") && !star a && !star b then mm2E (f = "max") (s.B T a) (s.B T b) else badE
        | _ => badE
def isSet : Expr → Bool
  | .Set .. => true
  | _ => false
def stepB (s : Sm) (T : Tb) (e : Expr) : Ev := match e with
  | .Name x _ => match slotOf T x with
    | some i => varB i
    | none => s.E T e
  | .Subscript a b _ => if plainIx b then subE (s.B T a) (s.E T b) else s.E T e
  | e => s.E T e
def stepE (s : Sm) (T : Tb) (e : Expr) : Ev := match e with
  | .Constant c _ _ => match constD c with
    | some d => fun _ => .ok (.sh, d)
    | none => badE
  | .Name x _ => nameE T x
  | .BinOp a op b _ => binE op (s.B T a) (s.B T b)
  | .UnaryOp .Not a _ => notE (s.B T a)
  | .UnaryOp .USub a _ => negE (s.B T a)
  | .BoolOp op es _ => boolE (s.E T) op es
  | .IfExp c a b _ => ifE (s.T T c) (s.E T a) (s.E T b)
  | .Compare a [op] [b] _ => if behindInMarks op b then badE else cmpE op (s.B T a) (s.B T b)
  | .Compare a [op, op'] [b, c] _ => if behindInMarks op' c then badE else chainE op op' (s.B T a) (s.B T b) (s.B T c)
  | .Subscript a (.Slice lo hi none _) _ => sliE (s.B T a) (lo.map (s.B T)) (hi.map (s.B T))
  | .Subscript a b _ => if plainIx b then fun env => (subE (s.B T a) (s.E T b) env).bind Sl.asSh else badE
  | .Attribute a f _ => if plainBase a then fldE f (s.B T a) else badE
  | .List es _ => if es.any star then badE else lstE (fun e => frzE (s.E T e)) es
  | .Tuple es _ _ => if es.any star then badE else tupE (fun e => frzE (s.E T e)) es
  | .Call (.Name f _) es [] _ => callsE T s f es
  | .Call (.Name f _) es kws _ => if !(glB T.sc f && okName f) then badE else match T.sg f with
    | some g => fnE T s f g es kws
    | none => badE
  | .Call (.Attribute o m ap) [a] [] p => if m = "index" then if ap.endLine == p.line && !star a && !call0 o then idxE (s.B T o) (s.B T a) else badE else badE
  | .ListComp elt [⟨tg, iter, ifs, 0⟩] scope _ =>
    match tgIx T.N scope tg, testsE (s.T { T with sc := scope }) ifs with
    | some (is, st), some t => if blkC T.N T.sc scope (ownOf T.N scope) && is.all (fun i => decide (i ∈ (ownOf T.N scope).map (·.2))) && !isSet iter then compG (srcOf T s iter) st t (frzE (s.E { T with sc := scope } elt)) ((ownOf T.N scope).map (·.2)) else badE
    | _, _ => badE
  | _ => badE
/-- as stepE, the items of what is new being the holder's where they can -/
def stepO (s : Sm) (T : Tb) (e : Expr) : Ev := match e with
  | .List es _ => if es.any star then badE else lstO (s.O T) es
  | .ListComp elt [⟨tg, iter, ifs, 0⟩] scope _ =>
    match tgIx T.N scope tg, testsE (s.T { T with sc := scope }) ifs with
    | some (is, st), some t => if blkC T.N T.sc scope (ownOf T.N scope) && is.all (fun i => decide (i ∈ (ownOf T.N scope).map (·.2))) && !isSet iter then compG (srcOf T s iter) st t (s.O { T with sc := scope } elt) ((ownOf T.N scope).map (·.2)) else badE
    | _, _ => badE
  | .ListComp .. => badE
  | e => s.E T e
def plainTest : Expr → Bool
  | .UnaryOp .Not _ _ => false
  | .BoolOp .. => false
  | .IfExp .. => false
  | .Compare .. => false
  | _ => true
def andT (a b : DEnv → R Bool) : DEnv → R Bool := fun env => (a env).bind fun k => if k then b env else .ok false
def orT (a b : DEnv → R Bool) : DEnv → R Bool := fun env => (a env).bind fun k => if k then .ok true else b env
def boolT (f : Expr → DEnv → R Bool) (op : BoolOp) : List Expr → DEnv → R Bool
  | [] => fun _ => .bad
  | [a] => f a
  | a :: b :: r => match op with
    | .And => andT (f a) (boolT f op (b :: r))
    | .Or => orT (f a) (boolT f op (b :: r))
def notT (a : DEnv → R Bool) : DEnv → R Bool := fun env => (a env).bind fun k => .ok (!k)
def truE (a : Ev) : DEnv → R Bool := fun env => (a env).bind fun x => truD x.2
def blT (a : Ev) : DEnv → R Bool := fun env => (a env).bind fun x => match x.2 with | .bl b => .ok b | _ => .bad
def stepT (s : Sm) (T : Tb) (e : Expr) : DEnv → R Bool := match e with
  | .UnaryOp .Not a _ => notT (s.T T a)
  | .BoolOp op es _ => boolT (s.T T) op es
  | .Compare a [op] [b] _ => if behindInMarks op b then fun _ => .bad else blT (cmpE op (s.B T a) (s.B T b))
  | .Compare a [op, op'] [b, c] _ => if behindInMarks op' c then fun _ => .bad else blT (chainE op op' (s.B T a) (s.B T b) (s.B T c))
  | e => if plainTest e then truE (s.B T e) else fun _ => .bad
def step (s : Sm) : Sm := ⟨stepB s, stepE s, stepO s, stepT s⟩
def sm : Nat → Sm
  | 0 => ⟨fun _ _ => badE, fun _ _ => badE, fun _ _ => badE, fun _ _ _ => .bad⟩
  | n + 1 => step (sm n)

/-! ### which slots' values may be handed on: they become shared -/
def parts : List (Option Expr) → List Expr := List.filterMap id
def al : Nat → Tb → Bool → Expr → List Nat
  | 0, _, _, _ => []
  | n + 1, T, m, e => match e with
    | .Name x _ => if m then (match slotOf T x with | some i => [i] | none => []) else []
    | .BinOp a _ b _ => al n T false a ++ al n T false b
    | .UnaryOp _ a _ => al n T false a
    | .BoolOp _ es _ => es.flatMap (al n T true)
    | .IfExp c a b _ => al n T false c ++ (al n T true a ++ al n T true b)
    | .Compare a _ bs _ => al n T false a ++ bs.flatMap (al n T false)
    | .Subscript a (.Slice lo hi st _) _ => al n T false a ++ (parts [lo, hi, st]).flatMap (al n T true)
    | .Subscript a b _ => al n T false a ++ al n T true b
    | .List es _ => es.flatMap (al n T true)
    | .Tuple es _ _ => es.flatMap (al n T true)
    | .Call (.Name f _) es kws _ => match T.sg f with
      | some g => es.flatMap (al n T g.al) ++ (kwVals kws).flatMap (al n T g.al)
      | none => match T.nw f with
        | some g => es.flatMap (al n T g.al)
        | none => es.flatMap (al n T false)
    | .Call (.Attribute o _ _) es _ _ => al n T false o ++ es.flatMap (al n T false)
    | .ListComp elt gs _ _ => (gs.flatMap fun g => al n T true g.iter ++ g.ifs.flatMap (al n T false)) ++ al n T true elt
    | _ => []
def dem1 (i : Nat) (env : DEnv) : DEnv := match env[i]? with
  | some (some (_, d)) => env.set i (some (.sh, d))
  | _ => env
def dem : List Nat → DEnv → DEnv
  | [], env => env
  | i :: r, env => dem r (dem1 i env)

/-! ### statements -/
inductive Fl where
  | nx (env : DEnv) | rt (s : Sl) | bk (env : DEnv) | ct (env : DEnv) | xc (x : Exn) (env : DEnv)
abbrev Ex := DEnv → R Fl
/-- what an expression raises leaves the statement, the slots as they stand -/
def cat {α : Type} (x : R α) (env : DEnv) (f : α → R Fl) : R Fl := match x with
  | .ok a => f a
  | .exc e => .ok (.xc e env)
  | .bad => .bad
@[simp] theorem cat_ok {α : Type} (a : α) (env : DEnv) (f : α → R Fl) : cat (R.ok a) env f = f a := rfl
@[simp] theorem cat_exc {α : Type} (e : Exn) (env : DEnv) (f : α → R Fl) : cat (R.exc e) env f = .ok (.xc e env) := rfl
@[simp] theorem cat_bad {α : Type} (env : DEnv) (f : α → R Fl) : cat R.bad env f = .bad := rfl
def seqS (f : Stmt → Ex) : List Stmt → Ex
  | [], env => .ok (.nx env)
  | s :: r, env => (f s env).bind fun fl => match fl with
    | .nx env' => seqS f r env'
    | fl => .ok fl
def demS (l : List Nat) (x : Ex) : Ex := fun env => x (dem l env)
def setS (i : Nat) (e : Ev) : Ex := fun env => if decide (i < env.length) then cat (e env) env fun s => .ok (.nx (setSlot i s env)) else .bad
def appS (i : Nat) (e : Ev) : Ex := fun env => match env[i]? with
  | some (some (.lst .sh, .lst xs)) => cat (e env) env fun y => cat (Sl.asSh y) env fun y => if decide (xs.length < sizeLine) then .ok (.nx (setSlot i (.lst .sh, .lst (xs ++ [y.2])) env)) else .bad
  | _ => .bad
/-! ownership that a slot or an item is to have -/
def depO : Nat → Ow
  | 0 => .sh
  | n + 1 => .lst (depO n)
def coe : Ow → Ow → Bool
  | .sh, _ => true
  | .lst a, .lst b => coe a b
  | _, _ => false
/-- what is stored, with the ownership t where it is a list of its own -/
def fit (t : Ow) (s : Sl) : R Sl := match s.1, s.2 with
  | .sh, d => .ok (.sh, d)
  | .lst _, .lst [] => match t with
    | .sh => .ok (.sh, .lst [])
    | .lst a => .ok (.lst a, .lst [])
    | _ => .bad
  | o, d => if coe t o then .ok (t, d) else .bad
def fitS (t : Ow) (s : Sl) : R Sl := (fit t s).bind fun r => if owEq r.1 t then .ok r else .bad
def setO (i : Nat) (t : Ow) (e : Ev) : Ex := fun env => if decide (i < env.length) then cat (e env) env fun s => cat (fit t s) env fun s => .ok (.nx (setSlot i s env)) else .bad
/-- a list of lists, changed at a place -/
def updO : List Int → (Ow → D → R D) → Ow → D → R D
  | [], f, o, d => f o d
  | i :: r, f, .lst o, .lst xs => (R.need ((ixN xs.length i).bind fun j => xs[j]?.map fun x => (j, x))).bind fun p => (updO r f o p.2).bind fun x' => .ok (.lst (xs.set p.1 x'))
  | _, _, _, _ => .bad
def leafA (y : Sl) (o : Ow) (d : D) : R D := match o, d with
  | .lst o', .lst xs => (fitS o' y).bind fun y' => if decide (xs.length < sizeLine) then .ok (.lst (xs ++ [y'.2])) else .bad
  | _, _ => .bad
def leafS (i : Int) (y : Sl) (o : Ow) (d : D) : R D := match o, d with
  | .lst o', .lst xs => (fitS o' y).bind fun y' => (R.need (ixN xs.length i)).bind fun j => .ok (.lst (xs.set j y'.2))
  | _, _ => .bad
def intD (s : Sl) : R Int := match s.2 with
  | .int i => .ok i
  | _ => .bad
def intsE : List Ev → DEnv → R (List Int)
  | [], _ => .ok []
  | e :: r, env => (noExc (e env)).bind fun x => (intD x).bind fun i => (intsE r env).bind fun is => .ok (i :: is)
/-- the place is there -/
def pathOk : List Int → Ow → D → Bool
  | [], _, _ => true
  | i :: r, .lst o, .lst xs => match (ixN xs.length i).bind fun j => xs[j]? with
    | some x => pathOk r o x
    | none => false
  | _, _, _ => false
def leafL (o : Ow) (d : D) : R D := match o, d with
  | .lst _, .lst _ => .ok d
  | _, _ => .bad
def R.isOk {α : Type} : R α → Bool
  | .ok _ => true
  | _ => false
/-- a list of one's own stands at the place -/
def pathL (is : List Int) (o : Ow) (d : D) : Bool := pathOk is o d && (updO is leafL o d).isOk
/-- x[e]..[e].append(y) -/
def appP (i : Nat) (es : List Ev) (e : Ev) : Ex := fun env => match env[i]? with
  | some (some (o, d)) => cat (intsE es env) env fun is => if pathL is o d then cat (e env) env fun y => (updO is (leafA y) o d).bind fun d' => .ok (.nx (setSlot i (o, d') env)) else .bad
  | _ => .bad
/-- x[e]..[e] = y -/
def setP (i : Nat) (es : List Ev) (j e : Ev) : Ex := fun env => cat (e env) env fun y => match env[i]? with
  | some (some (o, d)) => cat (intsE es env) env fun is => if pathL is o d then cat (j env) env fun k => cat (intD k) env fun k => (updO is (leafS k y) o d).bind fun d' => .ok (.nx (setSlot i (o, d') env)) else .bad
  | _ => .bad
def putD (f : Str) (d : D) : List (Str × D) → List (Str × D)
  | [] => [(f, d)]
  | (g, x) :: r => if g = f then (g, d) :: r else (g, x) :: putD f d r
/-- a field of the instance that is being made -/
def fldS (cls : Str → Option Ci) (i : Nat) (f : Str) (e : Ev) : Ex := fun env => match env[i]? with
  | some (some (.ino, .ins c fs)) => match cls c with
    | some ci => if decide (f ∈ ci.no) && decide (fs.length < 1000) then cat (e env) env fun y => cat (Sl.asSh y) env fun y => .ok (.nx (setSlot i (.ino, .ins c (putD f y.2 fs)) env)) else .bad
    | none => .bad
  | _ => .bad
/-- what may stand in an exception's text -/
def fmtD : D → Bool
  | .str y => decide (y.length ≤ 1000)
  | .int i => decide (0 ≤ i) && decide (i < 10 ^ 10)
  | _ => false
def raiseS (c x : Str) (fm : Bool) (e : Ev) : Ex := fun env => cat (e env) env fun y => cat (Sl.asSh y) env fun y => if !fm || fmtD y.2 then .ok (.xc ⟨c, [(x, y.2)]⟩ env) else .bad
def drpS (e : Ev) : Ex := fun env => cat (e env) env fun _ => .ok (.nx env)
def retS (e : Ev) : Ex := fun env => cat (e env) env fun s => .ok (.rt s)
def ifS (c : DEnv → R Bool) (a b : Ex) : Ex := fun env => cat (c env) env fun k => if k then a env else b env
def forG (st : Tg) (body : Ex) : List D → Ex
  | [], env => .ok (.nx env)
  | x :: xs, env => (st x env).bind fun en => (body en).bind fun fl => match fl with
    | .nx env' => forG st body xs env'
    | .ct env' => forG st body xs env'
    | .bk env' => .ok (.nx env')
    | .rt s => .ok (.rt s)
    | .xc x env' => .ok (.xc x env')
abbrev forD (i : Nat) := forG (set1 i)
def forT (st : Tg) (src : Src) (body : Ex) : Ex := fun env => cat (src.run env) env fun xs => forG st body xs env
abbrev forS (i : Nat) := forT (set1 i)
/-- a, b = e: the parts of what e gives -/
def putO : List Nat → List Ow → List D → DEnv → R DEnv
  | [], [], [], env => .ok env
  | i :: is, o :: os, d :: ds, env => if decide (i < env.length) then putO is os ds (setSlot i (o, d) env) else .bad
  | _, _, _, _ => .bad
def parO (s : Sl) : R (List Ow × List D) := match s.1, s.2 with
  | .sh, .tup ds => .ok (List.replicate ds.length .sh, ds)
  | .tup os, .tup ds => if decide (os.length = ds.length) then .ok (os, ds) else .bad
  | _, _ => .bad
def asgT (is : List Nat) (e : Ev) : Ex := fun env => cat (e env) env fun s => cat (parO s) env fun p => (putO is p.1 p.2 env).bind fun env' => .ok (.nx env')
/-- return (x, e): a name whose part is the holder's is handed over -/
inductive Mv where
  | mv (i : Nat) | ev (e : Ev)
def mvsE : List Mv → DEnv → R (List Sl)
  | [], _ => .ok []
  | .mv i :: r, env => (varB i env).bind fun x => (mvsE r env).bind fun xs => .ok (x :: xs)
  | .ev e :: r, env => (frzE e env).bind fun x => (mvsE r env).bind fun xs => .ok (x :: xs)
def mvIx : List Mv → List Nat
  | [] => []
  | .mv i :: r => i :: mvIx r
  | .ev _ :: r => mvIx r
def retT (ms : List Mv) : Ex := fun env => cat (mvsE ms env) env fun xs => if decide (xs.length ≤ sizeLine) && decide (mvIx ms).Nodup then .ok (.rt (.tup (xs.map (·.1)), .tup (xs.map (·.2)))) else .bad
def retO (t : Ow) (e : Ev) : Ex := fun env => cat (e env) env fun s => cat (fit t s) env fun s => .ok (.rt s)
def whileD (l : List Nat) (c : DEnv → R Bool) (body : Ex) : Nat → Ex
  | 0, _ => .bad
  | n + 1, env => cat (c (dem l env)) (dem l env) fun k => if k then (body (dem l env)).bind fun fl => match fl with
      | .nx env' => whileD l c body n env'
      | .ct env' => whileD l c body n env'
      | .bk env' => .ok (.nx env')
      | .rt s => .ok (.rt s)
      | .xc x env' => .ok (.xc x env')
    else .ok (.nx (dem l env))
@[irreducible] def whileFuel : Nat := 1099511627776
def badS : Ex := fun _ => .bad
def isComp : Expr → Bool
  | .ListComp .. => true
  | .SetComp .. => true
  | .DictComp .. => true
  | _ => false
def compScope : Expr → Option Scope
  | .ListComp _ _ s _ => some s
  | _ => none
/-- the store of a comprehension's list is the block's own -/
def swapB (sc : Scope) (x : Str) (px : Pos) (e : Expr) : Bool := match compScope e with
  | some s => (match sc.names.lookup x with | some .local => true | _ => false) && px.line == e.pos.line && !(s.names.any fun y => y.1 == x && (y.2 == .local || y.2 == .cell))
  | none => false
def pathOf : Expr → Option (Str × List Expr)
  | .Name x _ => some (x, [])
  | .Subscript a b _ => if plainIx b then (pathOf a).map fun p => (p.1, p.2 ++ [b]) else none
  | _ => none
def dpOf (T : Tb) (i : Nat) : Nat := T.dp.getD i 1
def mvOf (s : Sm) (T : Tb) : List Ow → List Expr → Option (List Mv)
  | [], [] => some []
  | o :: os, e :: es => (mvOf s T os es).bind fun r => if o.isSh then some (.ev (s.E T e) :: r) else match e with
    | .Name x _ => (slotOf T x).map fun i => .mv i :: r
    | _ => none
  | _, _ => none
def alMv (n : Nat) (T : Tb) : List Ow → List Expr → List Nat
  | o :: os, e :: es => (if o.isSh then al n T true e else []) ++ alMv n T os es
  | _, _ => []
def isTup : Expr → Bool
  | .Tuple .. => true
  | _ => false
def isNm : Expr → Bool
  | .Name .. => true
  | _ => false
def augOk : Operator → Bool
  | .Add => true
  | .Sub => true
  | _ => false
def augS (i : Nat) (op : Operator) (e : Ev) : Ex := fun env => match env[i]? with
  | some (some (.sh, .int x)) => cat (e env) env fun y => match y.2 with
    | .int z => cat (binD op (.sh, .int x) (.sh, .int z)) env fun s => .ok (.nx (setSlot i s env))
    | _ => .bad
  | _ => .bad
def stepX (s : Sm) (n : Nat) (x : Tb → Stmt → Ex) (T : Tb) (st : Stmt) : Ex := match st with
  | .Pass _ => fun env => .ok (.nx env)
  | .Break _ => fun env => .ok (.bk env)
  | .Continue _ => fun env => .ok (.ct env)
  | .Expr (.Constant (.str _) _ _) _ => fun env => .ok (.nx env)
  | .Expr (.Call (.Attribute (.Name y _) m ap) [a] [] p) _ =>
    if m = "append" then match slotOf T y with
      | some i => if ap.endLine == p.line && !star a then (if dpOf T i = 1 then demS (al n T true a) (appS i (frzE (s.E T a))) else demS (al n T true a) (appP i [] (s.O T a))) else badS
      | none => badS
    else badS
  | .Expr (.Call (.Attribute (.Subscript b j jp) m ap) [a] [] p) _ =>
    if m = "append" then match pathOf (.Subscript b j jp) with
      | some (y, es) => match slotOf T y with
        | some i => if ap.endLine == p.line && !star a then demS (es.flatMap (al n T true) ++ al n T true a) (appP i (es.map (s.E T)) (s.O T a)) else badS
        | none => badS
      | none => badS
    else badS
  | .Expr (.Call (.Name f fp) es kws p) _ => demS (al n T true (.Call (.Name f fp) es kws p)) (drpS (s.E T (.Call (.Name f fp) es kws p)))
  | .Assign [.Name y py] e _ => match ixOf y T.N with
    | some i => if locB T.sc y && okName y && (!isComp e || (compScope e).isSome) then (if dpOf T i = 1 then demS (al n T true e) (setS i (stepE s T e)) else demS (al n T true e) (setO i (depO (dpOf T i)) (stepO s T e))) else badS
    | none => badS
  | .Assign [.Subscript b j _] e _ => match pathOf b with
    | some (y, es) => match slotOf T y with
      | some i => if plainIx j then demS (es.flatMap (al n T true) ++ (al n T true j ++ al n T true e)) (setP i (es.map (s.E T)) (s.E T j) (s.O T e)) else badS
      | none => badS
    | none => badS
  | .Assign [.Tuple ts tk tp] e _ => match tgIx T.N T.sc (.Tuple ts tk tp) with
    | some (is, _) => if !isTup e && !isComp e then demS (al n T true e) (asgT is (s.E T e)) else badS
    | none => badS
  | .AugAssign (.Name y _) op e _ => match ixOf y T.N with
    | some i => if locB T.sc y && okName y && augOk op then demS (al n T true e) (augS i op (s.E T e)) else badS
    | none => badS
  | .Assign [.Attribute (.Name y _) f _] e _ => match slotOf T y with
    | some i => demS (al n T true e) (fldS T.cls i f (frzE (s.E T e)))
    | none => badS
  | .Raise (some (.Call (.Name c _) [e] [] _)) none _ => match (T.exc c).bind fun xi => xi.fld.map fun x => (xi.fm, x) with
    | some (fm, x) => if glB T.sc c && okName c && !star e then demS (al n T true e) (raiseS c x fm (frzE (s.E T e))) else badS
    | none => badS
  | .While c body [] _ => whileD (al n T false c) (s.T T c) (seqS (x T) body) whileFuel
  | .If c a b _ => demS (al n T false c) (ifS (s.T T c) (seqS (x T) a) (seqS (x T) b))
  | .For tg iter body [] _ => match tgIx T.N T.sc tg with
    | some (_, st) => if !isSet iter then demS (al n T true iter) (forT st (srcOf T s iter) (seqS (x T) body)) else badS
    | none => badS
  | .Return (some (.Name y p)) _ => match slotOf T y with
    | some i => retS (varB i)
    | none => retS (s.E T (.Name y p))
  | .Return (some (.Tuple es tk tp)) _ => match T.ret with
    | .tup os => match mvOf s T os es with
      | some ms => if es.any star then badS else demS (alMv n T os es) (retT ms)
      | none => badS
    | _ => demS (al n T true (.Tuple es tk tp)) (retS (s.E T (.Tuple es tk tp)))
  | .Return (some e) _ => match T.ret with
    | .lst (.lst o) => demS (al n T true e) (retO (.lst (.lst o)) (s.O T e))
    | _ => demS (al n T true e) (retS (s.E T e))
  | .Return none _ => retS fun _ => .ok (.sh, .non)
  | _ => badS
def sx (s : Sm) : Nat → Tb → Stmt → Ex
  | 0 => fun _ _ => badS
  | n + 1 => stepX s n (sx s n)

/-! ### defs -/
mutual
def imm : D → Bool
  | .non => true
  | .bl _ => true
  | .int _ => true
  | .str _ => true
  | .tup xs => imms xs
  | .lst _ => false
  | .iset _ => false
  | .ins _ fs => immF fs
def imms : List D → Bool
  | [] => true
  | x :: r => imm x && imms r
def immF : List (Str × D) → Bool
  | [] => true
  | p :: r => imm p.2 && immF r
end
mutual
def immO : Ow → D → Bool
  | .sh, d => imm d
  | .lst o, .lst xs => immOl o xs
  | .tup os, .tup xs => immOt os xs
  | _, _ => false
def immOl : Ow → List D → Bool
  | _, [] => true
  | o, x :: r => immO o x && immOl o r
def immOt : List Ow → List D → Bool
  | [], [] => true
  | o :: os, x :: r => immO o x && immOt os r
  | _, _ => false
end
def finD (g : Sg) (s : Sl) : R D := if (g.ret.isSh || owEq s.1 g.ret) && (g.al || immO g.ret s.2) then .ok s.2 else .bad
def env0 (N : List Str) (ds : List D) : DEnv := ds.map (fun d => some (.sh, d)) ++ List.replicate (N.length - ds.length) none
def finF (g : Sg) : Fl → R D
  | .nx _ => finD g (.sh, .non)
  | .rt s => finD g s
  | .xc x _ => if x.fs.all fun p => imm p.2 then .exc x else .bad
  | _ => .bad
def runD (g : Sg) (N : List Str) (body : Ex) (ds : List D) : R D := if ds.length = g.n then (match body (env0 N ds) with | .ok fl => finF g fl | _ => .bad) else .bad

/-! ### a text's defs -/
structure Df where
  name : Str
  st : Stmt
  N : List Str
  ps : List Str
  g : Sg
  dp : List Nat := []
/-- the __init__ of a class (name) -/
structure Cf where
  name : Str
  st : Stmt
  N : List Str
  ps : List Str
  n : Nat
  dp : List Nat := []
abbrev Cf.g (c : Cf) : Sg := ⟨c.n, .sh, false, []⟩
def fnd (tab : List Df) (f : Str) : Option Df := tab.find? fun d => d.name = f
def fndC (tab : List Cf) (f : Str) : Option Cf := tab.find? fun d => d.name = f
structure Tx where
  fs : List Df
  cs : List Cf
  m : Md
def fuel : Nat := 40
def tbOf (t : Tx) (call : Str → List D → R D) (d : Df) : Tb := ⟨d.N, L2.defScope d.st, fun f => (fnd t.fs f).map (·.g), call, t.m.c, t.m.k, t.m.x, fun f => (fndC t.cs f).map (·.g), d.dp, d.g.ret⟩
def tbC (t : Tx) (call : Str → List D → R D) (d : Cf) : Tb := ⟨d.N, L2.defScope d.st, fun f => (fnd t.fs f).map (·.g), call, t.m.c, t.m.k, t.m.x, fun f => (fndC t.cs f).map (·.g), d.dp, .sh⟩
def bodyOf (T : Tb) (st : Stmt) : Ex := seqS (sx (sm fuel) fuel T) (L2.defBody st)
/-- an instance that is made -/
def envC (c : Str) (N : List Str) (ds : List D) : DEnv := some (.ino, .ins c []) :: env0 (N.drop 1) ds
def finC (c : Str) : Fl → R D
  | .nx env => match (env[0]? : Option (Option Sl)) with
    | some (some (Ow.ino, D.ins c' fs)) => if decide (c' = c) && immF fs then .ok (.ins c fs) else .bad
    | _ => .bad
  | .xc x _ => if x.fs.all fun p => imm p.2 then .exc x else .bad
  | _ => .bad
def runC (c : Cf) (body : Ex) (ds : List D) : R D := if ds.length = c.n then (match body (envC c.name c.N ds) with | .ok fl => finC c.name fl | _ => .bad) else .bad
def semAt (t : Tx) : Nat → Str → List D → R D
  | 0 => fun _ _ => .bad
  | n + 1 => fun f ds => match fnd t.fs f with
    | some d => runD d.g d.N (bodyOf (tbOf t (semAt t n) d) d.st) ds
    | none => match fndC t.cs f with
      | some c => runC c (bodyOf (tbC t (semAt t n) c) c.st) ds
      | none => .bad
end PyD
end
section
set_option Elab.async false
set_option linter.all false
set_option maxRecDepth 100000
set_option maxHeartbeats 2000000
namespace PyD
open PySem PySem.Spec PyProof.Rows L2

def RepX (k : Ki) (F : Hp) (x : Exn) (cls : Value) (dd : Option Addr) : Prop :=
  ∃ C, k.cl x.cls = some C ∧ cls = .ref C ∧ ((x.fs = [] ∧ dd = none) ∨ ∃ d vfs, dd = some d ∧ F d = some (.xd vfs) ∧ RepF k F x.fs vfs)
/-- a def's promise: what its reading by data says -/
def spOf (k : Ki) (sem : List D → R D) (g : Sg) : Sp := fun vs H Q E => vs.length = g.n ∧ ∃ F ds, Same F H ∧ Reps k F ds vs ∧ match sem ds with
  | .ok d => ∀ v F' H' O, Ext F H F' H' O → RepO k F' g.ret O d v → Q v H'
  | .exc x => ∀ F' H' cls dd, Ext F H F' H' [] → RepX k F' x cls dd → E cls dd H'
  | .bad => False
/-- how arguments come to the parameters: by places, the last ones by name -/
def BindsG (K : PySem.W.Frag) (fd : FuncData) (ps : List Str) (g : Sg) : Prop := (g.kw = [] → L2.Binds K fd ps []) ∧ (g.kw ≠ [] → g.kw.length ≤ g.n ∧ KBn K fd ps (g.n - g.kw.length) g.kw (fun a b => a ++ b) (fun a b => a ++ b))
structure Cal (X : Cx) (k : Ki) (T : Tb) (f : Str) (g : Sg) : Prop where
  ex : ∃ fa fd ps lev, FnOk X.prog X.w X.K X.mg X.base (L2.CX X.prog X.w) lev fa fd ps (spOf k (T.call f) g) ∧ Room lev X.A ∧ X.mg f = some (.ref fa) ∧ PySem.W.keepIn X.K (.ref fa) = true ∧ BindsG X.K fd ps g
/-- the promise of a class's __init__ -/
def spI (k : Ki) (C : Addr) (sem : List D → R D) (g : Sg) : Sp := fun us H Q E => ∃ vs x dx H1, us = .ref x :: vs ∧ H = upd (upd H1 dx (.own x)) x (.ins C dx []) ∧ H1 x = none ∧ H1 dx = none ∧ dx ≠ x ∧ vs.length = g.n ∧ ∃ F ds, Same F H1 ∧ Reps k F ds vs ∧ match sem ds with
  | .ok d => ∀ F' H', Ext F H1 F' H' [] → Rep k F' d (.ref x) → Q .non H'
  | .exc y => ∀ F' H' cls dd, Ext F H1 F' H' [] → RepX k F' y cls dd → E cls dd H'
  | .bad => False
structure CalC (X : Cx) (k : Ki) (T : Tb) (c : Str) (g : Sg) : Prop where
  ex : ∃ C f fd ps lev, Mk X.K C f ∧ FnOk X.prog X.w X.K X.mg X.base (L2.CX X.prog X.w) lev f fd ps (spI k C (T.call c) g) ∧ Room (lev + 1) X.A ∧ X.mg c = some (.ref C) ∧ L2.Binds X.K fd ps []
def bname (x : Str) : Bool := (blOf x).isSome || decide (x = "isinstance") || decide (x = "range") || (tyOf x).isSome
/-- what the written part says of an own exception class -/
def XcF (k : Ki) (X : Cx) (c : Str) (xi : Xi) : Prop := ∃ C, k.cl c = some C ∧ X.mg c = some (.ref C) ∧ ∀ x, xi.fld = some x → ∃ D fI fd slf lev, OexC X.K C ∧ PySem.W.findIn X.K (.ref C) "__init__" = some (some (.ref fI)) ∧ PySem.W.typeIn X.K (.ref fI) = some (.type "function") ∧
  FnOk X.prog X.w X.K X.mg X.base (L2.CX X.prog X.w) lev fI fd [slf, x] (spX1 X.K D xi.fm x) ∧ Room (lev + 1) X.A ∧ L2.Binds X.K fd [slf, x] [] ∧ SupC X.K C D ∧ PySem.W.findIn X.K (.ref C) x = some none
structure XOk (k : Ki) (T : Tb) (E : L2.St → XK) (X : Cx) : Prop where
  hN : X.N = T.N
  nd : T.N.Nodup
  calm : X.calm = true
  hK : X.K = k.K
  hw : X.w = k.w
  un : X.A.units + 65 < cLine
  vis : ∀ x, visB T.sc x = true → Vis X.env.scope x
  loc : ∀ x, locB T.sc x = true → Loc X.env.scope x
  gl : ∀ x, glB T.sc x = true → X.env.scope.names.lookup x = some .globalImplicit
  fr : ∀ x, (T.sc.names.lookup x = some .cell ∨ T.sc.names.lookup x = some .free) → (X.env.scope.names.lookup x = some .cell ∨ X.env.scope.names.lookup x = some .free)
  blt : ∀ x, bname x = true → X.mg x = none
  cal : ∀ f g, T.sg f = some g → Cal X k T f g
  new : ∀ c g, T.sg c = none → T.nw c = some g → CalC X k T c g ∧ g.kw = [] ∧ g.al = false ∧ g.ret = .sh
  con : ∀ x d, T.gl x = some d → ∃ u v, X.mg x = some u ∧ L2.RelV v u ∧ ∀ F, Rep k F d v
  cls : ∀ c ci, T.cls c = some ci → ∃ C, k.cl c = some C ∧ Cls k.K C ∧ ∀ f ∈ ci.no, NoAttr k.K C f
  exc : ∀ c xi, T.exc c = some xi → XcF k X c xi
  ps : ∀ σ, PassesAt (L2.CX X.prog X.w) X σ (E σ)
  im : ∀ f g ds d, (T.sg f = some g ∨ (T.sg f = none ∧ T.nw f = some g)) → g.al = false → T.call f ds = .ok d → immO g.ret d = true
  imx : ∀ f g ds x, (T.sg f = some g ∨ (T.sg f = none ∧ T.nw f = some g)) → T.call f ds = .exc x → (x.fs.all fun p => imm p.2) = true

structure Bs (k : Ki) (F : Hp) (O : OL) (env : DEnv) (σ : L2.St) (H : Hp) : Prop where
  er : EnvRep k F O env σ
  sf : Same F H
  ow : ∀ p ∈ O, H p.1 = some p.2 ∧ F p.1 = none
theorem Bs.ext {k : Ki} {F F' H H' : Hp} {O Of : OL} {env : DEnv} {σ : L2.St} (b : Bs k F O env σ H) (e : Ext F H F' H' Of) : Bs k F' O env σ H' :=
  ⟨b.er.mono e.sF, e.fh, fun p hp => ⟨e.sH _ _ (b.ow p hp).1, (e.ag _ (by rw [(b.ow p hp).1]; exact fun z => nomatch z)).trans (b.ow p hp).2⟩⟩
/-- what is wanted behind an expression; own: what it gives is new or shared -/
def Out (k : Ki) (F H : Hp) (O : OL) (Q : VK) (own : Bool) (E : XK) : R Sl → Prop
  | .ok s => ∀ v F' H' Of Ob, Ext F H F' H' Of → RepO k F' s.1 Ob s.2 v → (if own = true then Ob = Of else ∀ p ∈ Ob, p ∈ Of ∨ p ∈ O) → Q v H'
  | .exc x => ∀ F' H' cls dd, Ext F H F' H' [] → RepX k F' x cls dd → E cls dd H'
  | .bad => False
def tD (k : Ki) (E : L2.St → XK) (own : Bool) (sem : Ev) : TE := fun σ H Q => ∃ F O env, Bs k F O env σ H ∧ Out k F H O Q own (E σ) (sem env)
def OutT (k : Ki) (F H : Hp) (Q : Bool → Hp → Prop) (E : XK) : R Bool → Prop
  | .ok b => ∀ F' H', Ext F H F' H' [] → Q b H'
  | .exc x => ∀ F' H' cls dd, Ext F H F' H' [] → RepX k F' x cls dd → E cls dd H'
  | .bad => False
def tDT (k : Ki) (E : L2.St → XK) (sem : DEnv → R Bool) : TT := fun σ H Q => ∃ F O env, Bs k F O env σ H ∧ OutT k F H Q (E σ) (sem env)

theorem peI {X : Cx} {e : Expr} {t t' : TE} (h : PE X e t) (i : ∀ σ H Q, t' σ H Q → t σ H Q) : PE X e t' := ⟨fun pins s σ H Q I hw => h.run pins s σ H Q I (i σ H Q hw)⟩
theorem ptI {X : Cx} {e : Expr} {t t' : TT} (h : PT X e t) (i : ∀ σ H Q, t' σ H Q → t σ H Q) : PT X e t' := ⟨fun pins s σ H Q I hw => h.run pins s σ H Q I (i σ H Q hw)⟩
theorem pwI {X : Cx} {e : Expr} {t t' : TT} (h : PW X e t) (i : ∀ σ H Q, t' σ H Q → t σ H Q) : PW X e t' := ⟨fun wh pins s σ H Q I hw => h.run wh pins s σ H Q I (i σ H Q hw)⟩
theorem paI {X : Cx} {e : List Expr} {t t' : TA} (h : PA X e t) (i : ∀ σ H Q, t' σ H Q → t σ H Q) : PA X e t' := ⟨fun pos pins s σ H Q I hw => h.run pos pins s σ H Q I (i σ H Q hw)⟩
theorem psI {X : Cx} {e : Stmt} {t t' : TS} (h : PS X e t) (i : ∀ D σ H, t' D σ H → t D σ H) : PS X e t' := ⟨fun pins s σ H D I hw => h.run pins s σ H D I (i D σ H hw)⟩
theorem pssI {X : Cx} {e : List Stmt} {t t' : TS} (h : PSs X e t) (i : ∀ D σ H, t' D σ H → t D σ H) : PSs X e t' := ⟨fun pins s σ H D I hw => h.run pins s σ H D I (i D σ H hw)⟩
theorem peBad {X : Cx} {e : Expr} {k : Ki} {E : L2.St → XK} {own : Bool} : PE X e (tD k E own badE) := ⟨fun _ _ _ _ _ _ ⟨_, _, _, _, h⟩ => h.elim⟩

section
variable {k : Ki} {F F1 H H1 : Hp} {O O1 : OL} {Q : VK} {own : Bool} {E : XK}
theorem Ext.drop {F H F1 H1 F2 H2 : Hp} {A B : OL} (a : Ext F H F1 H1 A) (b : Ext F1 H1 F2 H2 B) : Ext F H F2 H2 B :=
  (a.trans b).sub (fun p hp => List.mem_append_left _ hp) b.nd
theorem Out.shift {x : R Sl} (h : Out k F H O Q own E x) (e : Ext F H F1 H1 O1) : Out k F1 H1 O Q own E x := by
  cases x with
  | ok s => exact fun v F' H' Of Ob e' r c => h v F' H' Of Ob (e.drop e') r c
  | exc x => exact fun F' H' cls dd e' r => h F' H' cls dd (e.drop e') r
  | bad => exact h
theorem OutT.shift {x : R Bool} {Q : Bool → Hp → Prop} (h : OutT k F H Q E x) (e : Ext F H F1 H1 O1) : OutT k F1 H1 Q E x := by
  cases x with
  | ok s => exact fun F' H' e' => h F' H' (e.drop e')
  | exc x => exact fun F' H' cls dd e' r => h F' H' cls dd (e.drop e') r
  | bad => exact h
/-- the first part of a bind -/
theorem Out.fst {x : R Sl} {f : Sl → R Sl} {Q' : VK} {b : Bool} (h : Out k F H O Q own E (x.bind f))
    (g : ∀ s v F' H' Of Ob, x = .ok s → Ext F H F' H' Of → RepO k F' s.1 Ob s.2 v → (if b = true then Ob = Of else ∀ p ∈ Ob, p ∈ Of ∨ p ∈ O) → Out k F' H' O Q own E (f s) → Q' v H') : Out k F H O Q' b E x := by
  cases x with
  | ok s => exact fun v F' H' Of Ob e r c => g s v F' H' Of Ob rfl e r c (Out.shift h e)
  | exc x => exact h
  | bad => exact h
theorem OutT.fst {x : R Sl} {f : Sl → R Bool} {Q : Bool → Hp → Prop} {Q' : VK} {b : Bool} (h : OutT k F H Q E (x.bind f))
    (g : ∀ s v F' H' Of Ob, x = .ok s → Ext F H F' H' Of → RepO k F' s.1 Ob s.2 v → (if b = true then Ob = Of else ∀ p ∈ Ob, p ∈ Of ∨ p ∈ O) → OutT k F' H' Q E (f s) → Q' v H') : Out k F H O Q' b E x := by
  cases x with
  | ok s => exact fun v F' H' Of Ob e r c => g s v F' H' Of Ob rfl e r c (OutT.shift h e)
  | exc x => exact h
  | bad => exact h
theorem Out.fstT {x : R Bool} {f : Bool → R Sl} {Q' : Bool → Hp → Prop} (h : Out k F H O Q own E (x.bind f)) (g : ∀ s F' H', x = .ok s → Ext F H F' H' [] → Out k F' H' O Q own E (f s) → Q' s H') : OutT k F H Q' E x := by
  cases x with
  | ok s => exact fun F' H' e => g s F' H' rfl e (Out.shift h e)
  | exc x => exact h
  | bad => exact h
theorem OutT.fstT {x : R Bool} {f : Bool → R Bool} {Q Q' : Bool → Hp → Prop} (h : OutT k F H Q E (x.bind f)) (g : ∀ s F' H', x = .ok s → Ext F H F' H' [] → OutT k F' H' Q E (f s) → Q' s H') : OutT k F H Q' E x := by
  cases x with
  | ok s => exact fun F' H' e => g s F' H' rfl e (OutT.shift h e)
  | exc x => exact h
  | bad => exact h
/-- a datum without anything of its own, the heap as it is -/
theorem Out.val {d : D} {v : V} (h : Out k F H O Q own E (.ok (.sh, d))) (s : Same F H) (r : Rep k F d v) : Q v H := by
  refine h v F H [] [] (Ext.refl s) (.sh r) ?_
  cases own with
  | true => exact rfl
  | false => exact fun _ z => nomatch z
theorem Out.new {s : Sl} {v : V} {F' H' : Hp} {Of : OL} (h : Out k F H O Q own E (.ok s)) (e : Ext F H F' H' Of) (r : RepO k F' s.1 Of s.2 v) : Q v H' := by
  refine h v F' H' Of Of e r ?_
  cases own with
  | true => exact rfl
  | false => exact fun p z => .inl z
end
/-! a new object -/
theorem Ext.newF {F H : Hp} {p : Addr} {o : HO} (s : Same F H) (n : H p = none) : Ext F H (upd F p o) (upd H p o) [] := by
  have nF : F p = none := s.free n
  refine ⟨fun b u e => ?_, fun b u e => ?_, fun b h => ?_, fun b u e => ?_, (fun _ z => nomatch z), List.nodup_nil⟩
  · rw [upd_ne (ne_of_none e nF)]; exact e
  · rw [upd_ne (ne_of_none e n)]; exact e
  · rw [upd_ne]; intro z; rw [z] at h; exact h n
  · by_cases z : b = p
    · rw [z, upd_same] at e ⊢; exact e
    · rw [upd_ne z] at e ⊢; exact s _ _ e
theorem Ext.newO {F H : Hp} {p : Addr} {o : HO} (s : Same F H) (n : H p = none) : Ext F H F (upd H p o) [(p, o)] := by
  refine ⟨Same.refl _, fun b u e => ?_, fun b h => rfl, fun b u e => ?_, fun q hq => ?_, by simp⟩
  · rw [upd_ne (ne_of_none e n)]; exact e
  · rw [upd_ne (ne_of_none (s _ _ e) n)]; exact s _ _ e
  · rw [List.mem_singleton.mp hq]
    exact ⟨n, upd_same, s.free n⟩

/-! ### operations by values -/
/-- what is known of an operand -/
structure Arg (k : Ki) (F H : Hp) (s : Sl) (v : V) : Prop where
  ex : ∃ O, RepO k F s.1 O s.2 v ∧ ∀ p ∈ O, H p.1 = some p.2
theorem Arg.mono {k : Ki} {F H F' H' : Hp} {s : Sl} {v : V} {Of : OL} (a : Arg k F H s v) (e : Ext F H F' H' Of) : Arg k F' H' s v := by
  obtain ⟨O, r, h⟩ := a.ex
  exact ⟨O, r.mono e.sF, fun p hp => e.sH _ _ (h p hp)⟩
theorem Arg.of {k : Ki} {F H F' H' : Hp} {s : Sl} {v : V} {O Of Ob : OL} {env : DEnv} {σ : L2.St} {b : Bool} (B : Bs k F O env σ H) (e : Ext F H F' H' Of) (r : RepO k F' s.1 Ob s.2 v) (c : if b = true then Ob = Of else ∀ p ∈ Ob, p ∈ Of ∨ p ∈ O) : Arg k F' H' s v := by
  refine ⟨Ob, r, fun p hp => ?_⟩
  cases b with
  | true => rw [show Ob = Of from c] at hp; exact (e.own p hp).2.1
  | false =>
    rcases (show ∀ p ∈ Ob, p ∈ Of ∨ p ∈ O from c) p hp with h | h
    · exact (e.own p h).2.1
    · exact e.sH _ _ (B.ow p h).1
theorem arg_int {k : Ki} {F H : Hp} {o : Ow} {i : Int} {v : V} (a : Arg k F H (o, .int i) v) : v = .int i := by
  obtain ⟨O, r, h⟩ := a.ex
  cases r with
  | sh r => cases r; rfl
theorem arg_bl {k : Ki} {F H : Hp} {o : Ow} {i : Bool} {v : V} (a : Arg k F H (o, .bl i) v) : v = .bl i := by
  obtain ⟨O, r, h⟩ := a.ex
  cases r with
  | sh r => cases r; rfl
theorem arg_str {k : Ki} {F H : Hp} {o : Ow} {i : Str} {v : V} (a : Arg k F H (o, .str i) v) : v = .str i := by
  obtain ⟨O, r, h⟩ := a.ex
  cases r with
  | sh r => cases r; rfl
theorem arg_non {k : Ki} {F H : Hp} {o : Ow} {v : V} (a : Arg k F H (o, .non) v) : v = .non := by
  obtain ⟨O, r, h⟩ := a.ex
  cases r with
  | sh r => cases r; rfl
theorem arg_vf {k : Ki} {F H : Hp} {s : Sl} {v x : V} (a : Arg k F H s v) (e : s.2.vf = some x) : v = x := by
  obtain ⟨o, d⟩ := s
  cases d with
  | non => cases e; exact arg_non a
  | bl b => cases e; exact arg_bl a
  | int b => cases e; exact arg_int a
  | str b => cases e; exact arg_str a
  | _ => cases e
/-- the items, by themselves or shared -/
theorem RepOl.shs {k : Ki} {F : Hp} : ∀ {O : OL} {ds : List D} {vs : List V}, RepOl k F .sh O ds vs → O = [] ∧ Reps k F ds vs
  | _, _, _, .nil => ⟨rfl, .nil⟩
  | _, _, _, .cons h t => by
    cases h with
    | sh h =>
      obtain ⟨e, r⟩ := t.shs
      subst e
      exact ⟨rfl, .cons h r⟩
theorem arg_lst {k : Ki} {F H : Hp} {o : Ow} {ds : List D} {v : V} (a : Arg k F H (o, .lst ds) v) (s : Same F H) : ∃ a vs, v = .ref a ∧ SqL k.K H a vs ∧ vs.length = ds.length ∧ (o.flat = true → Reps k F ds vs) ∧ ∃ O, (∀ p ∈ O, H p.1 = some p.2) ∧ ((o = .sh ∧ Reps k F ds vs) ∨ ∃ o', o = .lst o' ∧ RepOl k F o' O ds vs) := by
  have len : ∀ {ds : List D} {vs : List V}, Reps k F ds vs → vs.length = ds.length := fun {ds} => by
    induction ds with
    | nil => intro vs r; cases r; rfl
    | cons d r ih => intro vs h; cases h with | cons h t => rw [List.length_cons, List.length_cons, ih t]
  have lenO : ∀ {o : Ow} {ds : List D} {O : OL} {vs : List V}, RepOl k F o O ds vs → vs.length = ds.length := fun {o ds} => by
    induction ds with
    | nil => intro O vs r; cases r; rfl
    | cons d r ih => intro O vs h; cases h with | cons h t => rw [List.length_cons, List.length_cons, ih t]
  obtain ⟨O, r, h⟩ := a.ex
  cases r with
  | sh r => cases r with | lst hr r => exact ⟨_, _, rfl, s.seq hr, len r, fun _ => r, [], (fun _ z => nomatch z), .inl ⟨rfl, r⟩⟩
  | lst r =>
    refine ⟨_, _, rfl, .inl (.inl (h _ List.mem_cons_self)), lenO r, fun f => ?_, _, (fun p hp => h p (List.mem_cons_of_mem _ hp)), .inr ⟨_, rfl, r⟩⟩
    rename_i o' _ _ _
    cases o' with
    | sh => exact r.shs.2
    | _ => cases f
theorem Reps.length {k : Ki} {F : Hp} : ∀ {ds : List D} {vs : List V}, Reps k F ds vs → vs.length = ds.length
  | _, _, .nil => rfl
  | _, _, .cons _ t => by rw [List.length_cons, List.length_cons, t.length]
theorem RepOt.length {k : Ki} {F : Hp} : ∀ {os : List Ow} {O : OL} {ds : List D} {vs : List V}, RepOt k F os O ds vs → vs.length = ds.length
  | _, _, _, _, .nil => rfl
  | _, _, _, _, .cons _ t => by rw [List.length_cons, List.length_cons, t.length]
theorem arg_tup {k : Ki} {F H : Hp} {o : Ow} {ds : List D} {v : V} (a : Arg k F H (o, .tup ds) v) : ∃ a vs, v = .ref a ∧ SqT k.K F a vs ∧ vs.length = ds.length ∧ (o.isSh = true → Reps k F ds vs) := by
  obtain ⟨O, r, h⟩ := a.ex
  cases r with
  | sh r => cases r with | tup hr r => exact ⟨_, _, rfl, hr, r.length, fun _ => r⟩
  | tup hr r => exact ⟨_, _, rfl, hr, r.length, fun f => nomatch f⟩
/-- a two-place operation keeps what g says -/
def rOp (k : Ki) (g : Sl → Sl → R Sl) : R2 := fun x y H Q => ∃ F s1 s2 s3, Same F H ∧ Arg k F H s1 x ∧ Arg k F H s2 y ∧ g s1 s2 = .ok s3 ∧ ∀ v F' H' Of, Ext F H F' H' Of → RepO k F' s3.1 Of s3.2 v → Q v H'
def rUn (k : Ki) (g : Sl → R Sl) : V → Hp → VK → Prop := fun x H Q => ∃ F s1 s3, Same F H ∧ Arg k F H s1 x ∧ g s1 = .ok s3 ∧ ∀ v F' H' Of, Ext F H F' H' Of → RepO k F' s3.1 Of s3.2 v → Q v H'
def rCl (k : Ki) (g : Sl → R Sl) : List V → Hp → VK → Prop := fun xs H Q => ∃ x, xs = [x] ∧ rUn k g x H Q
section
variable {X : Cx} {k : Ki} {E : L2.St → XK} {a b c : Expr} {sa sb sc : Ev} {own : Bool} {pos : Pos}
theorem tD_bin {g : Sl → Sl → R Sl} (hg : ∀ s1 s2 e, g s1 s2 ≠ .exc e) {σ : L2.St} {H : Hp} {Q : VK} (h : tD k E own (fun env => (sa env).bind fun x => (sb env).bind fun y => g x y) σ H Q) : tOp (rOp k g) (tD k E false sa) (tD k E false sb) σ H Q := by
  obtain ⟨F, O, env, B, h⟩ := h
  refine ⟨F, O, env, B, h.fst fun s1 v1 F1 H1 Of1 Ob1 e1 x1 r1 c1 h1 => ⟨F1, O, env, B.ext x1, h1.fst fun s2 v2 F2 H2 Of2 Ob2 e2 x2 r2 c2 h2 => ?_⟩⟩
  have A1 : Arg k F1 H1 s1 v1 := Arg.of B x1 r1 c1
  have A2 : Arg k F2 H2 s2 v2 := Arg.of (B.ext x1) x2 r2 c2
  cases q : g s1 s2 with
  | ok s3 =>
    rw [q] at h2
    exact ⟨F2, s1, s2, s3, x2.fh, A1.mono x2, A2, q, fun v F' H' Of e r => h2.new e r⟩
  | exc e => exact absurd q (hg _ _ _)
  | bad => rw [q] at h2; exact h2.elim
theorem tD_un {g : Sl → R Sl} (hg : ∀ s1 e, g s1 ≠ .exc e) {σ : L2.St} {H : Hp} {Q : VK} (h : tD k E own (fun env => (sa env).bind g) σ H Q) : tD k E false sa σ H fun x H1 => rUn k g x H1 Q := by
  obtain ⟨F, O, env, B, h⟩ := h
  refine ⟨F, O, env, B, h.fst fun s1 v1 F1 H1 Of1 Ob1 e1 x1 r1 c1 h1 => ?_⟩
  have A1 : Arg k F1 H1 s1 v1 := Arg.of B x1 r1 c1
  cases q : g s1 with
  | ok s3 =>
    rw [q] at h1
    exact ⟨F1, s1, s3, x1.fh, A1, q, fun v F' H' Of e r => h1.new e r⟩
  | exc e => exact absurd q (hg _ _)
  | bad => rw [q] at h1; exact h1.elim
end
end PyD
end
section
set_option Elab.async false
set_option linter.all false
set_option maxRecDepth 100000
set_option maxHeartbeats 4000000
namespace PyD
open PySem PySem.Spec PyProof.Rows L2
section
variable {X : Cx} {k : Ki}
theorem catR : OpR X (binaryOp .Add) (fun x y H Q => ∃ l b xs zs, x = .ref l ∧ y = .ref b ∧ SqL X.K H l xs ∧ SqL X.K H b zs ∧ xs.length + zs.length ≤ sizeLine ∧ ∀ p, H p = none → Q (.ref p) (upd H p (.lst (xs ++ zs)))) := by
  intro pins s σ H x y v u Q I rx ry ⟨l, b, xs, zs, e1, e2, hl, hb, hz, q⟩
  subst e1 e2
  cases rx; cases ry
  obtain ⟨i1, r1, p1, _⟩ := I.list hl
  obtain ⟨i2, r2, p2, _⟩ := I.list hb
  have z1 := r1.length
  have z2 := r2.length
  obtain ⟨⟨cls, dd, data, sl⟩, n, ho, hc, _, hd⟩ := p1
  obtain ⟨⟨cls2, dd2, data2, sl2⟩, n2, ho2, hc2, _, hd2⟩ := p2
  simp only at hc hd hc2 hd2
  subst hc hd hc2 hd2
  refine concat_meets ⟨_, ho, rfl⟩ ⟨_, ho2, rfl⟩ noFill_list_add seq_list_add PySem.F.slot_list_add PySem.F.entry_list_add (PySem.F.args_list_add_2 _ _) (PyProof.Rows.list_addW l b i1.toArray i2.toArray n n2 dd dd2 sl sl2 (by simp only [List.size_toArray]; omega)) ⟨ho, ho2, ?_⟩
  rw [show i1.toArray ++ i2.toArray = (i1 ++ i2).toArray by simp]
  exact ⟨.ref _, _, I.lnew (t' := s.toks) (r1.append r2) (by rw [List.length_append]; exact hz), rfl, q _ I.fresh⟩
theorem repOl_sh {F : Hp} : ∀ {ds : List D} {vs : List V}, Reps k F ds vs → RepOl k F .sh [] ds vs
  | _, _, .nil => .nil
  | _, _, .cons h t => .cons (.sh h) (repOl_sh t)
theorem reps_app {F : Hp} : ∀ {ds es : List D} {vs us : List V}, Reps k F ds vs → Reps k F es us → Reps k F (ds ++ es) (vs ++ us)
  | _, _, _, _, .nil, h => h
  | _, _, _, _, .cons h t, h' => .cons h (reps_app t h')
theorem mulOk_c {i j : Int} (h : mulOk i j = true) : CMul i j := by
  unfold mulOk at h
  simp only [Bool.or_eq_true, Bool.and_eq_true, decide_eq_true_eq] at h
  exact h
/-- a new list of items that are shared -/
theorem newL {F H : Hp} {Q : VK} {ds : List D} {vs : List V} (sf : Same F H) (r : Reps k F ds vs) (q : ∀ v F' H' Of, Ext F H F' H' Of → RepO k F' (.lst .sh) Of (.lst ds) v → Q v H') : ∀ p, H p = none → Q (.ref p) (upd H p (.lst vs)) := fun p np =>
  q _ F _ [(p, .lst vs)] (Ext.newO sf np) (.lst (repOl_sh r))
theorem newT {F H : Hp} {Q : VK} {ds : List D} {vs : List V} (sf : Same F H) (r : Reps k F ds vs) (q : ∀ v F' H' Of, Ext F H F' H' Of → RepO k F' .sh Of (.tup ds) v → Q v H') : ∀ p, H p = none → Q (.ref p) (upd H p (.tup vs)) := fun p np =>
  q _ _ _ [] (Ext.newF sf np) (.sh (.tup (.inl (.inl upd_same)) (r.mono (Ext.newF sf np).sF)))
theorem bin_exc (op : Operator) : ∀ s1 s2 e, binD op s1 s2 ≠ .exc e := by
  intro s1 s2 e h
  unfold binD at h
  split at h <;> first | cases h | (split at h <;> cases h)
theorem bin_ok {op : Operator} (hK : X.K = k.K) : OpR X (binaryOp op) (rOp k (binD op)) := by
  intro pins s σ H x y v u Q I rx ry ⟨F, s1, s2, s3, sf, a1, a2, hg, q⟩
  obtain ⟨o1, d1⟩ := s1
  obtain ⟨o2, d2⟩ := s2
  unfold binD at hg
  simp only at hg
  split at hg
  · cases hg; rw [arg_int a1] at rx; rw [arg_int a2] at ry
    exact op_add pins s σ H _ _ v u Q I rx ry ⟨_, _, rfl, rfl, q _ F H [] (Ext.refl sf) (.sh (.int _))⟩
  · cases hg; rw [arg_int a1] at rx; rw [arg_int a2] at ry
    exact op_sub pins s σ H _ _ v u Q I rx ry ⟨_, _, rfl, rfl, q _ F H [] (Ext.refl sf) (.sh (.int _))⟩
  · split at hg
    · rename_i hm
      cases hg; rw [arg_int a1] at rx; rw [arg_int a2] at ry
      exact op_mul pins s σ H _ _ v u Q I rx ry ⟨_, _, rfl, rfl, mulOk_c hm, q _ F H [] (Ext.refl sf) (.sh (.int _))⟩
    · cases hg
  · split at hg
    · rename_i hm
      simp only [Bool.and_eq_true, decide_eq_true_eq] at hm
      cases hg; rw [arg_int a1] at rx; rw [arg_int a2] at ry
      exact op_fdivN pins s σ H _ _ v u Q I rx ry ⟨_, _, rfl, rfl, hm, q _ F H [] (Ext.refl sf) (.sh (.int _))⟩
    · cases hg
  · split at hg
    · rename_i hm
      simp only [decide_eq_true_eq] at hm
      cases hg; rw [arg_int a1] at rx; rw [arg_int a2] at ry
      exact op_modN pins s σ H _ _ v u Q I rx ry ⟨_, _, rfl, rfl, hm, q _ F H [] (Ext.refl sf) (.sh (.int _))⟩
    · cases hg
  · split at hg
    · rename_i hm
      simp only [Bool.and_eq_true, decide_eq_true_eq] at hm
      cases hg; rw [arg_int a1] at rx; rw [arg_int a2] at ry
      exact op_pow pins s σ H _ _ v u Q I rx ry ⟨_, _, rfl, rfl, ⟨hm.1.1, hm.1.2, hm.2⟩, q _ F H [] (Ext.refl sf) (.sh (.int _))⟩
    · cases hg
  · split at hg
    · rename_i hm
      simp only [Bool.and_eq_true, decide_eq_true_eq] at hm
      cases hg
      obtain ⟨p1, v1, rfl, h1, l1, r1, _⟩ := arg_lst a1 sf
      obtain ⟨p2, v2, rfl, h2, l2, r2, _⟩ := arg_lst a2 sf
      rw [← hK] at h1 h2
      exact catR pins s σ H _ _ v u Q I rx ry ⟨_, _, _, _, rfl, rfl, h1, h2, by rw [l1, l2]; exact hm.2, newL sf (reps_app (r1 hm.1.1) (r2 hm.1.2)) q⟩
    · cases hg
  · split at hg
    · rename_i hm
      simp only [Bool.and_eq_true, decide_eq_true_eq] at hm
      cases hg
      obtain ⟨p1, v1, rfl, h1, l1, r1⟩ := arg_tup a1
      obtain ⟨p2, v2, rfl, h2, l2, r2⟩ := arg_tup a2
      have e1 := r1 hm.1.1
      have e2 := r2 hm.1.2
      have k1 := seqT sf h1
      have k2 := seqT sf h2
      rw [← hK] at k1 k2
      refine op_catA pins s σ H _ _ v u Q I rx ry ⟨_, _, _, _, rfl, rfl, k1, k2, by rw [l1, l2]; exact hm.2, fun z => ?_, fun _ z => ?_, fun _ _ => newT sf (reps_app e1 e2) q⟩
      · subst z
        cases e1
        exact q _ F H [] (Ext.refl sf) (.sh (.tup h2 e2))
      · subst z
        cases e2
        exact q _ F H [] (Ext.refl sf) (.sh (.tup h1 (by rw [List.append_nil]; exact e1)))
    · cases hg
  · cases hg

/-! ### comparisons -/
mutual
theorem dp_of {F H : Hp} (sf : Same F H) : ∀ {d : D} {v : V} {p : PyData}, Rep k F d v → d.py = some p → Dp k.K H v p
  | _, _, _, .non, e => by cases e; exact .non
  | _, _, _, .bl b, e => by cases e; exact .bl b
  | _, _, _, .int b, e => by cases e; exact .int b
  | _, _, _, .str b, e => by cases e; exact .str b
  | _, _, _, .tup (ds := ds) h r, e => by
    unfold D.py at e
    cases q : D.pys ds with
    | none => rw [q] at e; cases e
    | some ps => rw [q] at e; cases e; exact .tup (seqT sf h) (dps_of sf r q)
  | _, _, _, .lst (ds := ds) h r, e => by
    unfold D.py at e
    cases q : D.pys ds with
    | none => rw [q] at e; cases e
    | some ps => rw [q] at e; cases e; exact .lst (sf.seq h) (dps_of sf r q)
  | _, _, _, .iset .., e => by cases e
  | _, _, _, .ins .., e => by cases e
theorem dps_of {F H : Hp} (sf : Same F H) : ∀ {d : List D} {v : List V} {p : List PyData}, Reps k F d v → D.pys d = some p → DpAll k.K H v p
  | _, _, _, .nil, e => by cases e; exact .nil
  | _, _, _, .cons (d := d) (ds := ds) h r, e => by
    unfold D.pys at e
    cases q : D.py d with
    | none => rw [q] at e; cases e
    | some p =>
      cases q2 : D.pys ds with
      | none => rw [q, q2] at e; cases e
      | some ps => rw [q, q2] at e; cases e; exact .cons (dp_of sf h q) (dps_of sf r q2)
end
mutual
theorem dpO_of {F H : Hp} (sf : Same F H) : ∀ {o : Ow} {O : OL} {d : D} {v : V} {p : PyData}, RepO k F o O d v → (∀ p ∈ O, H p.1 = some p.2) → d.py = some p → Dp k.K H v p
  | _, _, _, _, _, .sh r, _, e => dp_of sf r e
  | _, _, _, _, _, .lst (ds := ds) r, hO, e => by
    unfold D.py at e
    cases q : D.pys ds with
    | none => rw [q] at e; cases e
    | some ps => rw [q] at e; cases e; exact .lst (.inl (.inl (hO _ List.mem_cons_self))) (dpOl_of sf r (fun p hp => hO p (List.mem_cons_of_mem _ hp)) q)
  | _, _, _, _, _, .tup (ds := ds) h r, hO, e => by
    unfold D.py at e
    cases q : D.pys ds with
    | none => rw [q] at e; cases e
    | some ps => rw [q] at e; cases e; exact .tup (seqT sf h) (dpOt_of sf r hO q)
theorem dpOl_of {F H : Hp} (sf : Same F H) : ∀ {o : Ow} {O : OL} {d : List D} {v : List V} {p : List PyData}, RepOl k F o O d v → (∀ p ∈ O, H p.1 = some p.2) → D.pys d = some p → DpAll k.K H v p
  | _, _, _, _, _, .nil, _, e => by cases e; exact .nil
  | _, _, _, _, _, .cons (d := d) (ds := ds) h r, hO, e => by
    unfold D.pys at e
    cases q : D.py d with
    | none => rw [q] at e; cases e
    | some p =>
      cases q2 : D.pys ds with
      | none => rw [q, q2] at e; cases e
      | some ps => rw [q, q2] at e; cases e; exact .cons (dpO_of sf h (fun p hp => hO p (List.mem_append_left _ hp)) q) (dpOl_of sf r (fun p hp => hO p (List.mem_append_right _ hp)) q2)
theorem dpOt_of {F H : Hp} (sf : Same F H) : ∀ {o : List Ow} {O : OL} {d : List D} {v : List V} {p : List PyData}, RepOt k F o O d v → (∀ p ∈ O, H p.1 = some p.2) → D.pys d = some p → DpAll k.K H v p
  | _, _, _, _, _, .nil, _, e => by cases e; exact .nil
  | _, _, _, _, _, .cons (d := d) (ds := ds) h r, hO, e => by
    unfold D.pys at e
    cases q : D.py d with
    | none => rw [q] at e; cases e
    | some p =>
      cases q2 : D.pys ds with
      | none => rw [q, q2] at e; cases e
      | some ps => rw [q, q2] at e; cases e; exact .cons (dpO_of sf h (fun p hp => hO p (List.mem_append_left _ hp)) q) (dpOt_of sf r (fun p hp => hO p (List.mem_append_right _ hp)) q2)
end
theorem Arg.dp {F H : Hp} {s : Sl} {v : V} {p : PyData} (a : Arg k F H s v) (sf : Same F H) (e : s.2.py = some p) : Dp k.K H v p := by
  obtain ⟨O, r, h⟩ := a.ex
  exact dpO_of sf r h e
/-- a comparison's answer, as a value -/
def cmpV (op : CmpOp) (x y : Sl) : R Sl := (cmpD op x.2 y.2).bind fun b => .ok (.sh, .bl b)
theorem eqD_exc : ∀ x y e, eqD x y ≠ .exc e := by
  intro x y e h
  unfold eqD at h
  repeat' split at h
  all_goals cases h
theorem inP_exc : ∀ x y e, inP x y ≠ .exc e := by
  intro x y e h
  unfold inP at h
  repeat' split at h
  all_goals cases h
theorem inD_exc : ∀ x y e, inD x y ≠ .exc e := by
  intro x y e h
  unfold inD at h
  split at h
  · cases h
  · exact inP_exc _ _ _ h
theorem isD_exc : ∀ x y e, isD x y ≠ .exc e := by
  intro x y e h
  unfold isD at h
  repeat' split at h
  all_goals cases h
theorem bind_exc {α β : Type} {x : R α} {f : α → R β} {e : Exn} (h1 : ∀ e, x ≠ .exc e) (h2 : ∀ a e, f a ≠ .exc e) : x.bind f ≠ .exc e := by
  cases x with
  | ok a => exact h2 a e
  | exc e' => exact absurd rfl (h1 e')
  | bad => intro z; cases z
theorem cmpD_exc (op : CmpOp) : ∀ x y e, cmpD op x y ≠ .exc e := by
  intro x y e
  cases op <;> simp only [cmpD]
  · exact eqD_exc x y e
  · exact bind_exc (eqD_exc x y) fun _ _ z => nomatch z
  · split <;> exact fun z => nomatch z
  · split <;> exact fun z => nomatch z
  · split <;> exact fun z => nomatch z
  · split <;> exact fun z => nomatch z
  · exact isD_exc x y e
  · exact bind_exc (isD_exc x y) fun _ _ z => nomatch z
  · exact inD_exc x y e
  · exact bind_exc (inD_exc x y) fun _ _ z => nomatch z
theorem cmp_exc (op : CmpOp) : ∀ s1 s2 e, cmpV op s1 s2 ≠ .exc e := fun s1 s2 e => bind_exc (cmpD_exc op s1.2 s2.2) fun _ _ z => nomatch z
theorem eq_ok {s1 s2 : Sl} {b : Bool} {F H : Hp} {x y : V} {Q : VK} {pins : List (Addr × Obj)} {σ : L2.St} {s : Shared} {v u : Value} (hK : X.K = k.K) (hu : X.A.units + 65 < cLine) (I : Inv X pins σ H s) (rx : L2.RelV x v) (ry : L2.RelV y u) (sf : Same F H)
    (a1 : Arg k F H s1 x) (a2 : Arg k F H s2 y) (e : eqD s1.2 s2.2 = .ok b) :
    (Q (.bl b) H → wpAny (model X.prog X.w) X.A (compareOp .Eq v u) (EP X pins σ Q) X.xe s) ∧ (Q (.bl (!b)) H → wpAny (model X.prog X.w) X.A (compareOp .NotEq v u) (EP X pins σ Q) X.xe s) := by
  obtain ⟨o1, d1⟩ := s1
  obtain ⟨o2, d2⟩ := s2
  simp only at e
  unfold eqD at e
  split at e
  · cases e; rw [arg_int a1] at rx; rw [arg_int a2] at ry
    exact ⟨fun q => op_eq pins s σ H _ _ v u Q I rx ry ⟨rfl, by simpa using q⟩, fun q => op_ne pins s σ H _ _ v u Q I rx ry ⟨rfl, by simpa using q⟩⟩
  · cases e; rw [arg_bl a1] at rx; rw [arg_bl a2] at ry
    exact ⟨fun q => op_eq pins s σ H _ _ v u Q I rx ry ⟨rfl, by simpa using q⟩, fun q => op_ne pins s σ H _ _ v u Q I rx ry ⟨rfl, by simpa using q⟩⟩
  · cases e; rw [arg_str a1] at rx; rw [arg_str a2] at ry
    exact ⟨fun q => op_eq pins s σ H _ _ v u Q I rx ry ⟨rfl, by simpa using q⟩, fun q => op_ne pins s σ H _ _ v u Q I rx ry ⟨rfl, by simpa using q⟩⟩
  · cases e; rw [arg_non a1] at rx; rw [arg_non a2] at ry
    exact ⟨fun q => op_eq pins s σ H _ _ v u Q I rx ry ⟨rfl, by simpa using q⟩, fun q => op_ne pins s σ H _ _ v u Q I rx ry ⟨rfl, by simpa using q⟩⟩
  · split at e
    · rename_i p q hp hq
      split at e
      · rename_i hs
        cases e
        simp only [Bool.and_eq_true] at hs
        have D1 := a1.dp sf hp
        have D2 := a2.dp sf hq
        rw [← hK] at D1 D2
        exact ⟨fun z => op_eqD (by omega) pins s σ H _ _ v u Q I rx ry ⟨_, _, D1, D2, hs.1, hs.2, z⟩, fun z => op_neD (by omega) pins s σ H _ _ v u Q I rx ry ⟨_, _, D1, D2, hs.1, hs.2, z⟩⟩
      · cases e
    · cases e
theorem vfs_of {F : Hp} : ∀ {ds : List D} {vs ws : List V}, Reps k F ds vs → D.vfs ds = some ws → vs = ws ∧ ws.all flatV = true
  | _, _, _, .nil, e => by cases e; exact ⟨rfl, rfl⟩
  | _, _, _, .cons (d := d) (ds := ds) h t, e => by
    unfold D.vfs at e
    cases q : D.vf d with
    | none => rw [q] at e; cases e
    | some a =>
      cases q2 : D.vfs ds with
      | none => rw [q, q2] at e; cases e
      | some as =>
        rw [q, q2] at e; cases e
        obtain ⟨e1, e2⟩ := vfs_of t q2
        subst e1
        cases h with
        | non => cases q; exact ⟨rfl, e2⟩
        | bl => cases q; exact ⟨rfl, e2⟩
        | int => cases q; exact ⟨rfl, e2⟩
        | str => cases q; exact ⟨rfl, e2⟩
        | _ => cases q
theorem vfs_ol {F : Hp} : ∀ {o : Ow} {O : OL} {ds : List D} {vs ws : List V}, RepOl k F o O ds vs → D.vfs ds = some ws → vs = ws ∧ ws.all flatV = true
  | _, _, _, _, _, .nil, e => by cases e; exact ⟨rfl, rfl⟩
  | _, _, _, _, _, .cons (d := d) (ds := ds) h t, e => by
    unfold D.vfs at e
    cases q : D.vf d with
    | none => rw [q] at e; cases e
    | some a =>
      cases q2 : D.vfs ds with
      | none => rw [q, q2] at e; cases e
      | some as =>
        rw [q, q2] at e; cases e
        obtain ⟨e1, e2⟩ := vfs_ol t q2
        subst e1
        cases h with
        | sh h =>
          cases h with
          | non => cases q; exact ⟨rfl, e2⟩
          | bl => cases q; exact ⟨rfl, e2⟩
          | int => cases q; exact ⟨rfl, e2⟩
          | str => cases q; exact ⟨rfl, e2⟩
          | _ => cases q
        | _ => cases q
theorem vfs_ot {F : Hp} : ∀ {o : List Ow} {O : OL} {ds : List D} {vs ws : List V}, RepOt k F o O ds vs → D.vfs ds = some ws → vs = ws ∧ ws.all flatV = true
  | _, _, _, _, _, .nil, e => by cases e; exact ⟨rfl, rfl⟩
  | _, _, _, _, _, .cons (d := d) (ds := ds) h t, e => by
    unfold D.vfs at e
    cases q : D.vf d with
    | none => rw [q] at e; cases e
    | some a =>
      cases q2 : D.vfs ds with
      | none => rw [q, q2] at e; cases e
      | some as =>
        rw [q, q2] at e; cases e
        obtain ⟨e1, e2⟩ := vfs_ot t q2
        subst e1
        cases h with
        | sh h =>
          cases h with
          | non => cases q; exact ⟨rfl, e2⟩
          | bl => cases q; exact ⟨rfl, e2⟩
          | int => cases q; exact ⟨rfl, e2⟩
          | str => cases q; exact ⟨rfl, e2⟩
          | _ => cases q
        | _ => cases q
theorem Arg.items {F H : Hp} {s : Sl} {v : V} {ds : List D} {ws : List V} (a : Arg k F H s v) (sf : Same F H) (e : items s.2 = some ds) (e2 : D.vfs ds = some ws) : ∃ p, v = .ref p ∧ (SqL k.K H p ws ∨ SqT k.K H p ws) ∧ ws.all flatV = true := by
  obtain ⟨O, r, h⟩ := a.ex
  obtain ⟨o, d⟩ := s
  cases r with
  | sh r =>
    cases r with
    | lst hr r => cases e; obtain ⟨rfl, f⟩ := vfs_of r e2; exact ⟨_, rfl, .inl (sf.seq hr), f⟩
    | tup hr r => cases e; obtain ⟨rfl, f⟩ := vfs_of r e2; exact ⟨_, rfl, .inr (seqT sf hr), f⟩
    | _ => cases e
  | lst r => cases e; obtain ⟨rfl, f⟩ := vfs_ol r e2; exact ⟨_, rfl, .inl (.inl (.inl (h _ List.mem_cons_self))), f⟩
  | tup hr r => cases e; obtain ⟨rfl, f⟩ := vfs_ot r e2; exact ⟨_, rfl, .inr (seqT sf hr), f⟩
  | ino => cases e
theorem vf_flat {d : D} {x : V} (e : d.vf = some x) : flatV x = true := by
  cases d <;> cases e <;> rfl
theorem dps_len {H : Hp} : ∀ {vs : List V} {qs : List PyData}, DpAll k.K H vs qs → vs.length = qs.length
  | _, _, .nil => rfl
  | _, _, .cons _ t => by rw [List.length_cons, List.length_cons, dps_len t]
theorem Arg.deep {F H : Hp} {s : Sl} {v : V} {qs : List PyData} (a : Arg k F H s v) (sf : Same F H) (e : (PyD.items s.2).bind D.pys = some qs) : Dp k.K H v (.list qs) ∨ Dp k.K H v (.tuple qs) := by
  obtain ⟨o, d⟩ := s
  cases d with
  | lst xs =>
    have e : D.pys xs = some qs := e
    exact .inl (a.dp sf (p := .list qs) (show (D.pys xs).map PyData.list = _ by rw [e]; rfl))
  | tup xs =>
    have e : D.pys xs = some qs := e
    exact .inr (a.dp sf (p := .tuple qs) (show (D.pys xs).map PyData.tuple = _ by rw [e]; rfl))
  | _ => cases e
theorem inP_ok {s1 s2 : Sl} {b : Bool} {F H : Hp} {x y : V} {Q : VK} {pins : List (Addr × Obj)} {σ : L2.St} {s : Shared} {v u : Value} (hK : X.K = k.K) (hu : X.A.units + 65 < cLine) (I : Inv X pins σ H s) (rx : L2.RelV x v) (ry : L2.RelV y u) (sf : Same F H)
    (a1 : Arg k F H s1 x) (a2 : Arg k F H s2 y) (e : inP s1.2 s2.2 = .ok b) :
    (Q (.bl b) H → wpAny (model X.prog X.w) X.A (compareOp .In v u) (EP X pins σ Q) X.xe s) ∧ (Q (.bl (!b)) H → wpAny (model X.prog X.w) X.A (compareOp .NotIn v u) (EP X pins σ Q) X.xe s) := by
  unfold inP at e
  split at e
  · rename_i p qs h1 h2
    split at e
    · rename_i hs
      cases e
      simp only [Bool.and_eq_true] at hs
      have D1 := a1.dp sf h1
      have D2 := a2.deep sf h2
      rw [← hK] at D1 D2
      obtain ⟨l1, t1⟩ := Dp.reads I p x v D1 rx
      have c1 := SeqAt.canLay_of_shaped hs.1
      have c2 : PyData.canLayAll0 qs = true := SeqAt.canLay_of_shaped hs.2
      have rm := room_in_shaped (A := X.A) (xs := qs) hs.1 hu
      rcases D2 with D2 | D2
      · obtain ⟨l2, t2⟩ := Dp.reads I _ y u D2 ry
        exact ⟨fun z => SeqAt.in_list_reads t2 t1 c2 c1 rm ⟨.bl _, H, I, rfl, z⟩, fun z => SeqAt.notIn_list_reads t2 t1 c2 c1 rm ⟨.bl _, H, I, rfl, z⟩⟩
      · obtain ⟨l2, t2⟩ := Dp.reads I _ y u D2 ry
        exact ⟨fun z => SeqAt.in_tuple_reads t2 t1 c2 c1 rm ⟨.bl _, H, I, rfl, z⟩, fun z => SeqAt.notIn_tuple_reads t2 t1 c2 c1 rm ⟨.bl _, H, I, rfl, z⟩⟩
    · cases e
  · cases e
theorem in_ok {s1 s2 : Sl} {b : Bool} {F H : Hp} {x y : V} {Q : VK} {pins : List (Addr × Obj)} {σ : L2.St} {s : Shared} {v u : Value} (hK : X.K = k.K) (hu : X.A.units + 65 < cLine) (I : Inv X pins σ H s) (rx : L2.RelV x v) (ry : L2.RelV y u) (sf : Same F H)
    (a1 : Arg k F H s1 x) (a2 : Arg k F H s2 y) (e : inD s1.2 s2.2 = .ok b) :
    (Q (.bl b) H → wpAny (model X.prog X.w) X.A (compareOp .In v u) (EP X pins σ Q) X.xe s) ∧ (Q (.bl (!b)) H → wpAny (model X.prog X.w) X.A (compareOp .NotIn v u) (EP X pins σ Q) X.xe s) := by
  unfold inD at e
  split at e
  · rename_i p ws h1 h2
    cases e
    cases q : PyD.items s2.2 with
    | none => rw [q] at h2; cases h2
    | some ds =>
      rw [q] at h2
      obtain ⟨a, rfl, hs, hf⟩ := a2.items sf q h2
      have e1 := arg_vf a1 h1
      subst e1
      rw [← hK] at hs
      exact ⟨fun z => op_in_seq pins s σ H _ _ v u Q I rx ry ⟨_, _, rfl, hs, vf_flat h1, hf, by simpa using z⟩, fun z => op_notIn_seq pins s σ H _ _ v u Q I rx ry ⟨_, _, rfl, hs, vf_flat h1, hf, by simpa using z⟩⟩
  · exact inP_ok hK hu I rx ry sf a1 a2 e
theorem is_bool {A : Around} {a b : Value} {Q : Value → Shared → Prop} {E : Value → Shared → Prop} {s : Shared} {M : Model} (hp : plainIs a b = true) (hne : (a == b) = false) : (Q (.bool false) s → wpAny M A (compareOp .Is a b) Q E s) ∧ (Q (.bool true) s → wpAny M A (compareOp .IsNot a b) Q E s) :=
  ⟨fun q => wpAny_is_other hp (beq_eq_false_iff_ne.mp hne) q, fun q => wpAny_isNot_other hp (beq_eq_false_iff_ne.mp hne) q⟩
theorem is_ok {s1 s2 : Sl} {b : Bool} {F H : Hp} {x y : V} {Q : VK} {pins : List (Addr × Obj)} {σ : L2.St} {s : Shared} {v u : Value} (I : Inv X pins σ H s) (rx : L2.RelV x v) (ry : L2.RelV y u) (sf : Same F H)
    (a1 : Arg k F H s1 x) (a2 : Arg k F H s2 y) (e : isD s1.2 s2.2 = .ok b) :
    (Q (.bl b) H → wpAny (model X.prog X.w) X.A (compareOp .Is v u) (EP X pins σ Q) X.xe s) ∧ (Q (.bl (!b)) H → wpAny (model X.prog X.w) X.A (compareOp .IsNot v u) (EP X pins σ Q) X.xe s) := by
  obtain ⟨o1, d1⟩ := s1
  obtain ⟨o2, d2⟩ := s2
  simp only at e
  unfold isD at e
  split at e
  · have hy := arg_non a2
    have hb : decide (x = .non) = b := by
      obtain ⟨O, r, h⟩ := a1.ex
      cases r with
      | sh r => cases r <;> cases e <;> simp
      | lst r => cases e; simp
      | tup _ r => cases e; simp
      | ino => cases e; simp
    exact ⟨fun z => op_isN pins s σ H _ _ v u Q I rx ry ⟨hy, by rw [hb]; exact z⟩, fun z => op_notN pins s σ H _ _ v u Q I rx ry ⟨hy, by rw [hb]; exact z⟩⟩
  · cases e; rw [arg_bl a1] at rx; rw [arg_bl a2] at ry
    exact ⟨fun z => op_isBl pins s σ H _ _ v u Q I rx ry ⟨_, _, rfl, rfl, z⟩, fun z => op_notBl pins s σ H _ _ v u Q I rx ry ⟨_, _, rfl, rfl, z⟩⟩
  · cases e; rw [arg_non a1] at rx; rw [arg_bl a2] at ry; cases rx; cases ry
    exact ⟨fun z => (is_bool rfl rfl).1 ⟨.bl false, H, I, rfl, z⟩, fun z => (is_bool rfl rfl).2 ⟨.bl true, H, I, rfl, z⟩⟩
  · cases e; rw [arg_int a1] at rx; rw [arg_bl a2] at ry; obtain ⟨t, rfl⟩ := rx; cases ry
    exact ⟨fun z => (is_bool rfl rfl).1 ⟨.bl false, H, I, rfl, z⟩, fun z => (is_bool rfl rfl).2 ⟨.bl true, H, I, rfl, z⟩⟩
  · cases e; rw [arg_str a1] at rx; rw [arg_bl a2] at ry; obtain ⟨t, rfl⟩ := rx; cases ry
    exact ⟨fun z => (is_bool rfl rfl).1 ⟨.bl false, H, I, rfl, z⟩, fun z => (is_bool rfl rfl).2 ⟨.bl true, H, I, rfl, z⟩⟩
  · cases e; obtain ⟨p, vs, rfl, _⟩ := arg_tup a1; rw [arg_bl a2] at ry; cases rx; cases ry
    exact ⟨fun z => (is_bool rfl rfl).1 ⟨.bl false, H, I, rfl, z⟩, fun z => (is_bool rfl rfl).2 ⟨.bl true, H, I, rfl, z⟩⟩
  · cases e; obtain ⟨p, vs, rfl, _⟩ := arg_lst a1 sf; rw [arg_bl a2] at ry; cases rx; cases ry
    exact ⟨fun z => (is_bool rfl rfl).1 ⟨.bl false, H, I, rfl, z⟩, fun z => (is_bool rfl rfl).2 ⟨.bl true, H, I, rfl, z⟩⟩
  · cases e
    have : ∃ p, x = .ref p := by
      obtain ⟨O, r, h⟩ := a1.ex
      cases r with
      | sh r => cases r; exact ⟨_, rfl⟩
      | ino => exact ⟨_, rfl⟩
    obtain ⟨p, rfl⟩ := this
    rw [arg_bl a2] at ry; cases rx; cases ry
    exact ⟨fun z => (is_bool rfl rfl).1 ⟨.bl false, H, I, rfl, z⟩, fun z => (is_bool rfl rfl).2 ⟨.bl true, H, I, rfl, z⟩⟩
  · cases e
theorem neg_of {x : R Bool} {b : Bool} (e : (x.bind fun b => R.ok (!b)) = .ok b) : x = .ok (!b) := by
  cases x with
  | ok a => cases e; simp
  | exc _ => cases e
  | bad => cases e
theorem cmp_ok {op : CmpOp} (hK : X.K = k.K) (hu : X.A.units + 65 < cLine) : OpR X (compareOp op) (rOp k (cmpV op)) := by
  intro pins s σ H x y v u Q I rx ry ⟨F, s1, s2, s3, sf, a1, a2, hg, q⟩
  unfold cmpV at hg
  cases hc : cmpD op s1.2 s2.2 with
  | exc e => rw [hc] at hg; cases hg
  | bad => rw [hc] at hg; cases hg
  | ok b =>
    rw [hc] at hg
    cases hg
    have q' : Q (.bl b) H := q _ F H [] (Ext.refl sf) (.sh (.bl _))
    cases op <;> simp only [cmpD] at hc
    · exact (eq_ok hK hu I rx ry sf a1 a2 hc).1 q'
    · exact (eq_ok hK hu I rx ry sf a1 a2 (neg_of hc)).2 (by simpa using q')
    all_goals try (split at hc)
    · rename_i h1 h2; obtain ⟨o1, d1⟩ := s1; obtain ⟨o2, d2⟩ := s2; simp only at h1 h2; subst h1 h2
      cases hc; rw [arg_int a1] at rx; rw [arg_int a2] at ry
      exact op_lt pins s σ H _ _ v u Q I rx ry ⟨_, _, rfl, rfl, q'⟩
    · cases hc
    · rename_i h1 h2; obtain ⟨o1, d1⟩ := s1; obtain ⟨o2, d2⟩ := s2; simp only at h1 h2; subst h1 h2
      cases hc; rw [arg_int a1] at rx; rw [arg_int a2] at ry
      exact op_le pins s σ H _ _ v u Q I rx ry ⟨_, _, rfl, rfl, q'⟩
    · cases hc
    · rename_i h1 h2; obtain ⟨o1, d1⟩ := s1; obtain ⟨o2, d2⟩ := s2; simp only at h1 h2; subst h1 h2
      cases hc; rw [arg_int a1] at rx; rw [arg_int a2] at ry
      exact op_gt pins s σ H _ _ v u Q I rx ry ⟨_, _, rfl, rfl, q'⟩
    · cases hc
    · rename_i h1 h2; obtain ⟨o1, d1⟩ := s1; obtain ⟨o2, d2⟩ := s2; simp only at h1 h2; subst h1 h2
      cases hc; rw [arg_int a1] at rx; rw [arg_int a2] at ry
      exact op_ge pins s σ H _ _ v u Q I rx ry ⟨_, _, rfl, rfl, q'⟩
    · cases hc
    · exact (is_ok I rx ry sf a1 a2 hc).1 q'
    · exact (is_ok I rx ry sf a1 a2 (neg_of hc)).2 (by simpa using q')
    · exact (in_ok hK hu I rx ry sf a1 a2 hc).1 q'
    · exact (in_ok hK hu I rx ry sf a1 a2 (neg_of hc)).2 (by simpa using q')
end
end PyD
end
section
set_option Elab.async false
set_option linter.all false
set_option maxRecDepth 100000
set_option maxHeartbeats 4000000
namespace PyD
open PySem PySem.Spec PyProof.Rows L2
/-! ### set(xs) of a list of whole numbers -/
section
variable {P : Program} {w : World} {A : Around} {E : Value → Shared → Prop} {s : Shared}
theorem setOfList {l : Addr} {vs : Array Value} (zs : List Int) {Q : Value → Shared → Prop} (nh : A.handled = none) (isl : s.heap.IsList l vs) (are : IntsAre vs.toList zs) (room : zs.length + 1 < scanBound)
    (fin : ∀ (g : Heap) (t n : Nat), SetR w g s.heap.objs.size (fun j => decide (j ∈ zs)) n → (∀ b o, s.heap.get? b = some o → g.get? b = some o) → Q (.ref s.heap.objs.size) { s with heap := g, toks := t }) :
    wpAny (model P w) A (call (.type "set") [.ref l]) Q E s := by
  have len : vs.size = zs.length := by
    have e := IntsAre.length are
    rwa [Array.length_toList] at e
  obtain ⟨c, tl, hmro⟩ := F.called_set.mro
  have m1 := F.called_set.made
  have m2 := F.called_set.sub
  have m3 := F.called_set.notType
  have m4 := F.called_set.canCreate
  have m5 := F.typeCall_set_1 (.ref l)
  refine wpAny_call (codeAny_of_tree ?_)
  show wpAny _ _ (callAny (.type "set") _) _ _ _
  refine wpAny_pure ⟨Code.quiet_builtin _ (by decide +kernel), codeAny_builtin F.entry_type_call ?_⟩
  rw [Around.under_plain (weight_type_call_type "set" [.ref l] []) rfl]
  repeat (any_goals (first | assumption | wp_step))
  refine codeAny_mono (code_set_led1 (.ref l) (E := E) (Q₁ := fun ob t => ob = .ref s.heap.objs.size ∧ t = { s with heap := s.heap.push { cls := .type "set", dict := none, data := .set #[] 0 (.fresh 0 0 (!w.params.followText "set-order")) } }) ⟨rfl, rfl⟩) fun r t hr => ?_
  match r, hr with
  | .error e, hr => exact hr
  | .ok (.ret ob), hr =>
    obtain ⟨rfl, rfl⟩ := hr
    have at0 : (s.heap.push { cls := .type "set", dict := none, data := .set #[] 0 (.fresh 0 0 (!w.params.followText "set-order")) }).get? s.heap.objs.size = some { cls := .type "set", dict := none, data := .set #[] 0 (.fresh 0 0 (!w.params.followText "set-order")) } := Heap.get?_push_size _ rfl
    have ty0 : Shared.TypeIs { s with heap := s.heap.push { cls := .type "set", dict := none, data := .set #[] 0 (.fresh 0 0 (!w.params.followText "set-order")) } } (.ref s.heap.objs.size) "set" := ⟨_, at0, rfl⟩
    have k1 := F.called_set.init.lookup
    have k2 := F.called_set.init.bind (.ref s.heap.objs.size)
    repeat (any_goals (first | assumption | wp_step))
    refine codeAny_mono (codeAny_call_builtin (R := wants (fun r t2 => r = .none ∧ ∃ g tk n, t2 = { s with heap := g, toks := tk } ∧ SetR w g s.heap.objs.size (fun j => decide (j ∈ zs)) n ∧ (∀ b o, s.heap.get? b = some o → g.get? b = some o)) E) F.called_set.init.plain F.entry_set_init (check_set_init_1 ty0 ?_)) fun r2 t2 hr2 => ?_
    · obtain ⟨ol, hol, hcl, nl, hdl⟩ := isl
      obtain ⟨ocls, odict, odata, oslots⟩ := ol
      simp only at hcl hdl
      subst hcl; subst hdl
      have g0 : (s.heap.push { cls := .type "set", dict := none, data := .set #[] 0 (.fresh 0 0 (!w.params.followText "set-order")) }).get? l = some { cls := .type "list", dict := odict, data := .seq vs nl, slots := oslots } := Heap.get?_push_of_some _ hol
      have u1 := F.sub_list_set
      have u2 := F.sub_list_frozenset
      have u3 : (Value.type "list" == Value.type "dict") = false := by decide
      have isl1 : (s.heap.push { cls := .type "set", dict := none, data := .set #[] 0 (.fresh 0 0 (!w.params.followText "set-order")) }).IsList l vs := ⟨_, g0, rfl, nl, rfl⟩
      unfold Builtin.«set.__init__» noKeywords Builtin.Frozenset.updateFrom
      generalize hPI : pyIter = PI
      wp_walk
      subst hPI
      refine wpAny_pyIter_list isl1 ?_
      refine wpAny_bind (wpAny_runValue ?_)
      have ltl : l < s.heap.objs.size := Heap.lt_size hol
      have sz : (s.heap.push { cls := .type "set", dict := none, data := .set #[] 0 (.fresh 0 0 (!w.params.followText "set-order")) }).objs.size = s.heap.objs.size + 1 := Heap.size_push ..
      have nl1 : l ≠ (s.heap.push { cls := .type "set", dict := none, data := .set #[] 0 (.fresh 0 0 (!w.params.followText "set-order")) }).objs.size := fun e => by
        rw [sz] at e; rw [e] at ltl; exact absurd ltl (Nat.not_lt.mpr (Nat.le_succ _))
      have nS : s.heap.objs.size ∉ [(s.heap.push { cls := .type "set", dict := none, data := .set #[] 0 (.fresh 0 0 (!w.params.followText "set-order")) }).objs.size, l] := by
        rw [sz]
        intro m
        rcases List.mem_cons.mp m with e | e
        · exact absurd e (Nat.ne_of_lt (Nat.lt_succ_self _))
        · exact absurd (List.mem_singleton.mp e) (Nat.ne_of_gt ltl)
      have val : ∀ (i : Nat) (v : Value), vs[i]? = some v → ∃ k t, zs[i]? = some k ∧ v = .int k t := fun i v hv => by
        have hi : i < zs.length := by rw [← len]; exact (Array.getElem?_eq_some_iff.mp hv).1
        obtain ⟨t, e⟩ := PyProof.Rows.IntsAre.int_at are i v (by rw [Array.getElem?_toList]; exact hv)
        exact ⟨zs[i], t, List.getElem?_eq_getElem hi, by rw [e, List.getD_eq_getElem?_getD, List.getElem?_eq_getElem hi]; rfl⟩
      refine set_update_ints ((Walks.list (by simp [nh]) _ l nl1 vs).toS) s.heap.objs.size nS zs len room val (vs.size - 0) 0 _ (by omega) (Nat.zero_le _) ⟨⟨_, Heap.get?_push_size _ rfl, rfl, rfl⟩, (isl1.push _)⟩ ?hS0 ?hR
      case hS0 =>
        refine ⟨0, Nat.le_refl 0, setR_new_at ?_⟩
        exact Heap.get?_push_of_some _ at0
      case hR =>
        intro t' n' hm _ hS'
        obtain ⟨g', g2, d', tk', os'⟩ := t'
        have z1 : g2 = s.gens := hm.gens
        have z2 : d' = s.drawn := hm.drawn
        have z3 : os' = s.os := hm.os
        subst z1 z2 z3
        show wpAny _ _ _ _ _ _
        refine wpAny_pure ?_
        show wpAny _ _ (ret Value.none) _ _ _
        refine wpAny_pure ⟨rfl, g', tk', n', rfl, hS', fun b o e => ?_⟩
        have lt0 : b < s.heap.objs.size := Heap.lt_size e
        refine hm.heap b o (fun m => ?_) (Heap.get?_push_of_some _ (Heap.get?_push_of_some _ e))
        rcases List.mem_cons.mp m with e' | e'
        · exact absurd e' (Nat.ne_of_lt lt0)
        · exact absurd (List.mem_singleton.mp e') (by rw [sz]; exact Nat.ne_of_lt (Nat.lt_succ_of_lt lt0))
    · match r2, hr2 with
      | .error e, hr2 => exact hr2
      | .ok (.ret r), hr2 =>
        obtain ⟨rfl, g', tk, n', rfl, hS', hk'⟩ := hr2
        repeat (any_goals (first | assumption | wp_step))
        exact fin _ _ _ hS' hk'
      | .ok .next, hr2 => exact hr2.elim
      | .ok .brk, hr2 => exact hr2.elim
      | .ok .cont, hr2 => exact hr2.elim
  | .ok .next, hr => exact hr.elim
  | .ok .brk, hr => exact hr.elim
  | .ok .cont, hr => exact hr.elim
end
end PyD
end
section
set_option Elab.async false
set_option linter.all false
set_option maxRecDepth 100000
set_option maxHeartbeats 2000000
namespace PyD
open PySem PySem.Spec PyProof.Rows L2
section
variable {X : Cx} {CX : CXT} {k : Nat} {f C : Addr} {fd : FuncData} {ps : List Str} {sp : Sp} {E : L2.St → XK} {x : Str} {p pos : Pos} {e : Expr} {es : List Expr} {t : TA}
/-- the reading of C(e, ..), what is raised wished for at the caller's slots -/
def tMakeS (C : Addr) (sp : Sp) (E : L2.St → XK) (t : TA) : TE := fun σ H Q => t σ H fun vs H1 => ∀ x dx, H1 x = none → H1 dx = none → dx ≠ x → sp (.ref x :: vs) (upd (upd H1 dx (.own x)) x (.ins C dx [])) (fun v H2 => v = .non ∧ Q (.ref x) H2) (E σ)
theorem run_makeS {pins : List (Addr × Obj)} {σ : L2.St} {H : Hp} {s : Shared} {Q : VK} {us : List Value} {vs : List V} {E0 : XK} (M : Mk X.K C f) (G : FnOk X.prog X.w X.K X.mg X.base CX k f fd ps sp) (hr : Room (k + 1) X.A) (hb : L2.Binds X.K fd ps []) (hx : PassesAt CX X σ E0)
    (I : Inv X pins σ H s) (r : Vals vs us) (h : ∀ x dx, H x = none → H dx = none → dx ≠ x → sp (.ref x :: vs) (upd (upd H dx (.own x)) x (.ins C dx [])) (fun v H2 => v = .non ∧ Q (.ref x) H2) E0) :
    wpAny (model X.prog X.w) X.A (call (.ref C) us) (EP X pins σ Q) X.xe s := by
  let n := s.heap.objs.size
  have want := h (n + 1) n (I.hok.fresh (Nat.le_succ _)) (I.hok.fresh (Nat.le_refl _)) (Nat.ne_of_lt (Nat.lt_succ_self _))
  have J := Inv.made (C := C) I
  have rr : Vals (V.ref (n + 1) :: vs) (Value.ref (n + 1) :: us) := .cons rfl r
  have len : (Value.ref (n + 1) :: us).length = ps.length := rr.length.symm.trans (G.len _ _ _ _ want)
  have bnd := hb { s with heap := _, toks := _ } (Value.ref (n + 1) :: us) J.kIn (by rw [List.append_nil]; exact len)
  have ran := G.run _ X.stack _ _ ⟨Value.ref (n + 1) :: us, []⟩ (Value.ref (n + 1) :: us) _ _ E0 (hr.make C us []) (J.env0.make C us []) (by rw [List.append_nil] at bnd; exact bnd) rr want
  refine wpAny_call (make_map (f := f) I.kIn M.makes M.init (beq_iff_eq.mp M.fn) (codeAny_mono ran fun q s' z => ?_))
  cases q with
  | error e => exact hx pins _ _ e s' J z
  | ok fl =>
    cases fl with
    | ret u =>
      obtain ⟨v, H', J2, rv, ev, q3⟩ := J.after z
      subst ev
      exact ⟨rv, ⟨V.ref (n + 1), H', J2, rfl, q3⟩⟩
    | next => exact z.elim
    | brk => exact z.elim
    | cont => exact z.elim
theorem pe_makeS (M : Mk X.K C f) (G : FnOk X.prog X.w X.K X.mg X.base CX k f fd ps sp) (hr : Room (k + 1) X.A) (hg : Gl X x) (hm : X.mg x = some (.ref C)) (hb : L2.Binds X.K fd ps []) (hx : ∀ σ, PassesAt CX X σ (E σ)) (ha : PA X (e :: es) t)
    (hdb : (x == ("__debug__" : Str)) = false := by decide) (he : starEach (e :: es) X.env = (false, eval e X.env) :: starEach es X.env := by rfl) (hpl : (backTo pos (starEach es X.env)).any (·.1) = false := by rfl) :
    PE X (.Call (.Name x p) (e :: es) [] pos) (tMakeS C sp E t) := by
  refine ⟨fun pins s σ H Q I h => wpAny_Call_Name_kw (ld_glob I hg hm ?_ hdb)⟩
  refine PySem.W.callWith_K (h₀ := X.base) I.ok.mod.kin M.kp (thn (ha.run pos pins s σ H _ I h) fun us s1 ⟨vs, H1, I1, r, q⟩ => ⟨I1.kIn, ?_⟩) he hpl
  exact run_makeS M G hr hb (hx σ) I1 r q
end
end PyD
end
section
set_option Elab.async false
set_option linter.all false
set_option maxRecDepth 100000
set_option maxHeartbeats 4000000
namespace PyD
open PySem PySem.Spec PyProof.Rows L2
/-! ### whole numbers in rows -/
theorem intsOf_eq : ∀ {xs : List D} {ns : List Int}, intsOf xs = some ns → xs = ns.map D.int
  | [], _, h => by cases h; rfl
  | x :: r, ns, h => by
    cases x with
    | int i =>
      unfold intsOf at h
      cases q : intsOf r with
      | none => rw [q] at h; cases h
      | some ms => rw [q] at h; cases h; rw [intsOf_eq q]; rfl
    | _ => cases h
@[simp] theorem intsOf_map (ns : List Int) : intsOf (ns.map D.int) = some ns := by
  induction ns with
  | nil => rfl
  | cons n r ih => show (intsOf (r.map D.int)).map (n :: ·) = _; rw [ih]; rfl
theorem reps_ints {k : Ki} {F : Hp} : ∀ {ns : List Int} {vs : List V}, Reps k F (ns.map D.int) vs → vs = ns.map V.int
  | [], _, .nil => rfl
  | _ :: _, _, .cons h t => by cases h; rw [reps_ints t]; rfl
theorem reps_of_ints {k : Ki} {F : Hp} : ∀ (ns : List Int), Reps k F (ns.map D.int) (ns.map V.int)
  | [] => .nil
  | n :: r => .cons (.int n) (reps_of_ints r)
theorem repOl_ints {k : Ki} {F : Hp} {o : Ow} : ∀ {ns : List Int} {O : OL} {vs : List V}, RepOl k F o O (ns.map D.int) vs → vs = ns.map V.int
  | [], _, _, .nil => rfl
  | _ :: _, _, _, .cons h t => by
    cases h with
    | sh h => cases h; rw [repOl_ints t]; rfl
theorem mem_insD {i j : Int} : ∀ {l : List Int}, j ∈ insD i l ↔ j = i ∨ j ∈ l
  | [] => by simp [insD]
  | x :: r => by
    unfold insD
    split
    · simp
    · split
      · rename_i h; subst h; simp
      · have ih := @mem_insD i j r
        simp only [List.mem_cons, ih]
        constructor
        · rintro (h | h | h) <;> simp [h]
        · rintro (h | h | h) <;> simp [h]
theorem pw_insD {i : Int} : ∀ {l : List Int}, l.Pairwise (· < ·) → (insD i l).Pairwise (· < ·)
  | [], _ => by simp [insD]
  | x :: r, h => by
    unfold insD
    have h' := List.pairwise_cons.mp h
    split
    · rename_i lt
      refine List.pairwise_cons.mpr ⟨fun y hy => ?_, h⟩
      rcases List.mem_cons.mp hy with e | e
      · subst e; exact lt
      · exact Int.lt_trans lt (h'.1 y e)
    · split
      · exact h
      · refine List.pairwise_cons.mpr ⟨fun y hy => ?_, pw_insD h'.2⟩
        rcases mem_insD.mp hy with e | e
        · subst e; omega
        · exact h'.1 y e
theorem mem_sdI {j : Int} : ∀ {l : List Int}, j ∈ sdI l ↔ j ∈ l
  | [] => by simp [sdI]
  | x :: r => by
    show j ∈ insD x (sdI r) ↔ _
    rw [mem_insD, mem_sdI, List.mem_cons]
theorem pw_sdI : ∀ (l : List Int), (sdI l).Pairwise (· < ·)
  | [] => List.Pairwise.nil
  | x :: r => pw_insD (pw_sdI r)
theorem nodup_lt {l : List Int} (h : l.Pairwise (· < ·)) : l.Nodup := h.imp fun a b => by omega
theorem lt_unique {l m : List Int} (h : l.Pairwise (· < ·)) (h' : m.Pairwise (· < ·)) (e : ∀ j, j ∈ l ↔ j ∈ m) : l = m :=
  List.Perm.eq_of_pairwise (le := (· < ·)) (fun a b _ _ h1 h2 => absurd h1 (by omega)) h h' ((List.perm_ext_iff_of_nodup (nodup_lt h) (nodup_lt h')).mpr e)
theorem setR_count {w : World} {h : Heap} {a : Addr} {S : Int → Bool} {n : Nat} {l : List Int} (R : SetR w h a S n) (pw : l.Pairwise (· < ·)) (e : ∀ j, S j = true ↔ j ∈ l) : n = l.length := by
  obtain ⟨o, es, ep, t, ho, hex, hd, g, nd, hm, hb, hf, hn, _⟩ := R
  have p : (es.toList.map keyOf).Perm l := (List.perm_ext_iff_of_nodup nd (nodup_lt pw)).mpr fun j => by rw [← hm, e]
  have z := p.length_eq
  rw [List.length_map, Array.length_toList] at z
  omega
theorem maxI_spec : ∀ (l : List Int) (m : Int), (maxI m l = m ∨ maxI m l ∈ l) ∧ m ≤ maxI m l ∧ ∀ y ∈ l, y ≤ maxI m l
  | [], m => ⟨.inl rfl, Int.le_refl _, fun _ h => nomatch h⟩
  | x :: r, m => by
    have ih := maxI_spec r (if m < x then x else m)
    unfold maxI
    refine ⟨?_, ?_, fun y hy => ?_⟩
    · rcases ih.1 with h | h
      · rw [h]; split
        · exact .inr List.mem_cons_self
        · exact .inl rfl
      · exact .inr (List.mem_cons_of_mem _ h)
    · have := ih.2.1; split at this <;> omega
    · rcases List.mem_cons.mp hy with e | e
      · subst e; have := ih.2.1; split at this <;> omega
      · exact ih.2.2 y e
theorem minI_spec : ∀ (l : List Int) (m : Int), (minI m l = m ∨ minI m l ∈ l) ∧ minI m l ≤ m ∧ ∀ y ∈ l, minI m l ≤ y
  | [], m => ⟨.inl rfl, Int.le_refl _, fun _ h => nomatch h⟩
  | x :: r, m => by
    have ih := minI_spec r (if x < m then x else m)
    unfold minI
    refine ⟨?_, ?_, fun y hy => ?_⟩
    · rcases ih.1 with h | h
      · rw [h]; split
        · exact .inr List.mem_cons_self
        · exact .inl rfl
      · exact .inr (List.mem_cons_of_mem _ h)
    · have := ih.2.1; split at this <;> omega
    · rcases List.mem_cons.mp hy with e | e
      · subst e; have := ih.2.1; split at this <;> omega
      · exact ih.2.2 y e

section
variable {X : Cx} {k : Ki}
theorem Arg.ints {F H : Hp} {s : Sl} {v : V} {ds : List D} {ns : List Int} (a : Arg k F H s v) (sf : Same F H) (e : s.2 = .lst ds) (e2 : intsOf ds = some ns) : ∃ p, v = .ref p ∧ SqL k.K H p (ns.map V.int) := by
  have z := intsOf_eq e2
  subst z
  obtain ⟨o, d⟩ := s
  subst e
  obtain ⟨p, vs, rfl, hr, _, _, O, _, h⟩ := arg_lst a sf
  refine ⟨p, rfl, ?_⟩
  rcases h with ⟨_, r⟩ | ⟨_, _, r⟩
  · rw [reps_ints r] at hr; exact hr
  · rw [repOl_ints r] at hr; exact hr
theorem Arg.seq {F H : Hp} {s : Sl} {v : V} {ds : List D} (a : Arg k F H s v) (sf : Same F H) (e : PyD.items s.2 = some ds) : ∃ p vs, v = .ref p ∧ (SqL k.K H p vs ∨ SqT k.K H p vs) ∧ vs.length = ds.length := by
  obtain ⟨o, d⟩ := s
  cases d with
  | lst xs => cases e; obtain ⟨p, vs, rfl, hr, hl, _⟩ := arg_lst a sf; exact ⟨p, vs, rfl, .inl hr, hl⟩
  | tup xs => cases e; obtain ⟨p, vs, rfl, hr, hl, _⟩ := arg_tup a; exact ⟨p, vs, rfl, .inr (seqT sf hr), hl⟩
  | _ => cases e
def blV : Bl → Value
  | .len => .builtin "len" | .abs => .builtin "abs" | .int => .type "int" | .tuple => .type "tuple" | .list => .type "list" | .set => .type "set"
  | .sorted => .builtin "sorted" | .max => .builtin "max" | .min => .builtin "min" | .sum => .builtin "sum"
theorem bl_exc (b : Bl) : ∀ s e, blD b s ≠ .exc e := by
  intro s e h
  cases b <;> simp only [blD] at h <;> (repeat' split at h) <;> cases h
theorem len_bl (hK : X.K = k.K) : CallR X (.builtin "len") (rCl k (blD .len)) := by
  intro pins s σ H xs us Q I r hh
  obtain ⟨x, rfl, F, s1, s3, sf, a, hg, q⟩ := hh
  have go : ∀ ds, PyD.items s1.2 = some ds → blD .len s1 = .ok (.sh, .int ds.length) → wpAny (model X.prog X.w) X.A (call (.builtin "len") us) (EP X pins σ Q) X.xe s := fun ds e eg => by
    obtain ⟨p, vs, rfl, hs, hl⟩ := a.seq sf e
    rw [eg] at hg; cases hg
    rw [← hK] at hs
    exact call_len_seq pins s σ H _ us Q I r ⟨p, vs, rfl, hs, by rw [hl]; exact q _ F H [] (Ext.refl sf) (.sh (.int _))⟩
  obtain ⟨o, d⟩ := s1
  cases d with
  | lst xs => exact go xs rfl rfl
  | tup xs => exact go xs rfl rfl
  | _ => cases hg
theorem abs_bl : CallR X (.builtin "abs") (rCl k (blD .abs)) := by
  intro pins s σ H xs us Q I r hh
  obtain ⟨x, rfl, F, s1, s3, sf, a, hg, q⟩ := hh
  obtain ⟨o, d⟩ := s1
  cases d with
  | int i => cases hg; cases arg_int a; exact call_abs pins s σ H _ us Q I r ⟨_, rfl, q _ F H [] (Ext.refl sf) (.sh (.int _))⟩
  | _ => cases hg
theorem int_bl : CallR X (.type "int") (rCl k (blD .int)) := by
  intro pins s σ H xs us Q I r hh
  obtain ⟨x, rfl, F, s1, s3, sf, a, hg, q⟩ := hh
  obtain ⟨o, d⟩ := s1
  cases d with
  | int i => cases hg; cases arg_int a; exact call_int1 pins s σ H _ us Q I r (.inl ⟨_, rfl, q _ F H [] (Ext.refl sf) (.sh (.int _))⟩)
  | bl i => cases hg; cases arg_bl a; exact call_int1 pins s σ H _ us Q I r (.inr ⟨_, rfl, q _ F H [] (Ext.refl sf) (.sh (.int _))⟩)
  | _ => cases hg
theorem tuple_bl (hK : X.K = k.K) : CallR X (.type "tuple") (rCl k (blD .tuple)) := by
  intro pins s σ H xs us Q I r hh
  obtain ⟨x, rfl, F, s1, s3, sf, a, hg, q⟩ := hh
  obtain ⟨o, d⟩ := s1
  cases d with
  | lst ds =>
    simp only [blD] at hg
    split at hg
    · rename_i hf
      cases hg
      obtain ⟨p, vs, rfl, hr, hl, rr, _⟩ := arg_lst a sf
      rw [← hK] at hr
      exact call_tuple_of pins s σ H _ us Q I r ⟨p, vs, rfl, .inl ⟨hr, newT sf (rr hf) q⟩⟩
    · cases hg
  | tup ds =>
    simp only [blD] at hg
    split at hg
    · rename_i hf
      cases hg
      obtain ⟨p, vs, rfl, hr, hl, rr⟩ := arg_tup a
      have hr' := seqT sf hr
      rw [← hK] at hr'
      exact call_tuple_of pins s σ H _ us Q I r ⟨p, vs, rfl, .inr ⟨hr', q _ F H [] (Ext.refl sf) (.sh (.tup hr (rr hf)))⟩⟩
    · cases hg
  | _ => cases hg
theorem list_bl (hK : X.K = k.K) : CallR X (.type "list") (rCl k (blD .list)) := by
  intro pins s σ H xs us Q I r hh
  obtain ⟨x, rfl, F, s1, s3, sf, a, hg, q⟩ := hh
  obtain ⟨o, d⟩ := s1
  cases d with
  | lst ds =>
    simp only [blD] at hg
    split at hg
    · rename_i hf
      cases hg
      obtain ⟨p, vs, rfl, hr, hl, rr, _⟩ := arg_lst a sf
      rw [← hK] at hr
      exact call_list_of pins s σ H _ us Q I r ⟨p, vs, rfl, .inl hr, newL sf (rr hf) q⟩
    · cases hg
  | tup ds =>
    simp only [blD] at hg
    split at hg
    · rename_i hf
      cases hg
      obtain ⟨p, vs, rfl, hr, hl, rr⟩ := arg_tup a
      have hr' := seqT sf hr
      rw [← hK] at hr'
      exact call_list_of pins s σ H _ us Q I r ⟨p, vs, rfl, .inr hr', newL sf (rr hf) q⟩
    · cases hg
  | _ => cases hg
theorem set_bl (hc : X.calm = true) (hK : X.K = k.K) (hw : X.w = k.w) : CallR X (.type "set") (rCl k (blD .set)) := by
  intro pins s σ H xs us Q I r hh
  obtain ⟨x, rfl, F, s1, s3, sf, a, hg, q⟩ := hh
  obtain ⟨u, rfl, ru⟩ := vals1 r
  simp only [blD] at hg
  split at hg
  · rename_i ns hi
    split at hg
    · rename_i hb
      cases hg
      simp only [decide_eq_true_eq] at hb
      have fin : ∀ (g : Heap) (t n : Nat), SetR X.w g s.heap.objs.size (fun j => decide (j ∈ ns)) n → (∀ b o, s.heap.get? b = some o → g.get? b = some o) → EP X pins σ Q (.ref s.heap.objs.size) { s with heap := g, toks := t } := fun g t n R kk => by
        have hn : n = (sdI ns).length := setR_count R (pw_sdI ns) fun j => by rw [decide_eq_true_eq]; exact mem_sdI.symm
        subst hn
        refine ⟨.ref s.heap.objs.size, _, I.laid (t' := t) (o := SetO X.w s.heap.objs.size (fun j => decide (j ∈ ns)) (sdI ns).length) kk (Nat.le_refl _) (setO_new R), rfl, ?_⟩
        refine q _ _ _ [] (Ext.newF sf I.fresh) (.sh ?_)
        rw [hw]
        exact .iset upd_same (fun j => by rw [decide_eq_true_eq]; exact mem_sdI.symm) (pw_sdI ns)
      obtain ⟨o, d⟩ := s1
      cases d with
      | lst ds =>
        obtain ⟨p, rfl, hs⟩ := a.ints sf rfl hi
        cases ru
        rw [← hK] at hs
        obtain ⟨its, rv, pl, hz⟩ := I.list hs
        exact setOfList ns (I.ok.hd hc) pl.isList (by simpa using rv.ints) hb fin
      | tup ds =>
        have z := intsOf_eq hi
        obtain ⟨O, rr, hO⟩ := a.ex
        have : ∃ p, x = .ref p ∧ SqT k.K H p (ns.map V.int) := by
          subst z
          cases rr with
          | sh rr => cases rr with | tup hr rr => rw [reps_ints rr] at hr; exact ⟨_, rfl, seqT sf hr⟩
          | tup hr rr =>
            have e : ∀ {os : List Ow} {ms : List Int} {O : OL} {vs : List V}, RepOt k F os O (ms.map D.int) vs → vs = ms.map V.int := fun {os ms} => by
              induction ms generalizing os with
              | nil => intro O vs h; cases h; rfl
              | cons m r ih => intro O vs h; cases h with | cons h t => cases h with | sh h => cases h; rw [ih t]; rfl
            rw [e rr] at hr; exact ⟨_, rfl, seqT sf hr⟩
        obtain ⟨p, rfl, hs⟩ := this
        cases ru
        rw [← hK] at hs
        obtain ⟨its, rv, pl, hz⟩ := I.tuple hs
        exact call_set_tupI ns (I.ok.hd hc) (show s.heap.IsTuple p its.toArray from pl) (by simpa using rv.ints) hb fun g t n R _ kk => fin g t n R kk
      | _ => cases hi
    · cases hg
  · cases hg
theorem sort_unique' {l m : List Int} (p : l.Perm m) (h : l.Pairwise (· ≤ ·)) : l = m.mergeSort fun a b => decide (a ≤ b) := by
  refine List.Perm.eq_of_pairwise (le := (· ≤ ·)) (fun a b _ _ h1 h2 => Int.le_antisymm h1 h2) h ?_ (p.trans (List.mergeSort_perm m _).symm)
  have z := List.pairwise_mergeSort (le := fun (a b : Int) => decide (a ≤ b)) (fun a b c h1 h2 => by simp only [decide_eq_true_eq] at *; omega) (fun a b => by simp only [Bool.or_eq_true, decide_eq_true_eq]; omega) m
  exact z.imp fun h => of_decide_eq_true h
theorem sorted_bl (hc : X.calm = true) (hK : X.K = k.K) (hw : X.w = k.w) : CallR X (.builtin "sorted") (rCl k (blD .sorted)) := by
  intro pins s σ H xs us Q I r hh
  obtain ⟨x, rfl, F, s1, s3, sf, a, hg, q⟩ := hh
  obtain ⟨o, d⟩ := s1
  cases d with
  | iset ns =>
    simp only [blD] at hg
    split at hg
    · rename_i hb
      simp only [decide_eq_true_eq] at hb
      cases hg
      obtain ⟨O, rr, _⟩ := a.ex
      cases rr with
      | sh rr =>
        cases rr with
        | iset hr hS hp =>
          have h2 := sf _ _ hr
          rw [← hw] at h2
          exact cr_sortedSet hc pins s σ H _ us Q I r ⟨_, _, _, rfl, h2, hb, fun ms p pm mm lm np => by
            have e : ms = ns := lt_unique pm hp fun j => (mm j).trans (hS j)
            subst e
            exact newL sf (reps_of_ints ms) q p np⟩
    · cases hg
  | lst ds =>
    simp only [blD] at hg
    split at hg
    · rename_i ns hi
      cases hg
      obtain ⟨p, rfl, hs⟩ := a.ints sf rfl hi
      rw [← hK] at hs
      exact cr_sortedI pins s σ H _ us Q I r ⟨p, ns, rfl, hs, fun ms p pm mm np => by
        rw [sort_unique' pm mm]
        exact newL sf (reps_of_ints _) q p np⟩
    · cases hg
  | _ => cases hg
theorem maxI_fold : ∀ (ns : List Int) (n : Int), ns.foldl max n = maxI n ns
  | [], _ => rfl
  | m :: r, n => by
    rw [List.foldl_cons, maxI_fold r (max n m)]
    show maxI (max n m) r = maxI (if n < m then m else n) r
    congr 1
    split <;> omega
theorem minI_fold : ∀ (ns : List Int) (n : Int), ns.foldl min n = minI n ns
  | [], _ => rfl
  | m :: r, n => by
    rw [List.foldl_cons, minI_fold r (min n m)]
    show minI (min n m) r = minI (if m < n then m else n) r
    congr 1
    split <;> omega
theorem reads_ints {h : Heap} : ∀ {us : List Value} {ns : List Int}, IntsAre us ns → ReadsAll h us (ns.map PyData.int) []
  | _, _, .nil => .nil
  | _, _, .cons _ _ t => .cons (.int _ _) (reads_ints t)
theorem alike_ints (ns : List Int) : PySem.W.AlikeAll (ns.map PyData.int) := by
  refine ⟨fun x hx y hy => ?_, fun x hx => ?_⟩
  · obtain ⟨i, _, rfl⟩ := List.mem_map.1 hx
    obtain ⟨j, _, rfl⟩ := List.mem_map.1 hy
    rfl
  · obtain ⟨i, _, rfl⟩ := List.mem_map.1 hx
    intro z; cases z
theorem depth_ints : ∀ ns : List Int, PyData.depthAll (ns.map PyData.int) = 0
  | [] => rfl
  | n :: r => by
    show max 0 (PyData.depthAll (r.map PyData.int)) = 0
    rw [depth_ints r]
    rfl
theorem Arg.intsT {F H : Hp} {s : Sl} {v : V} {ds : List D} {ns : List Int} (a : Arg k F H s v) (sf : Same F H) (e : s.2 = .tup ds) (e2 : intsOf ds = some ns) : ∃ p, v = .ref p ∧ SqT k.K H p (ns.map V.int) := by
  have z := intsOf_eq e2
  subst z
  obtain ⟨O, rr, hO⟩ := a.ex
  obtain ⟨o, d⟩ := s
  cases (show d = _ from e)
  cases rr with
  | sh rr => cases rr with | tup hr rr => rw [reps_ints rr] at hr; exact ⟨_, rfl, seqT sf hr⟩
  | tup hr rr =>
    have e : ∀ {os : List Ow} {ms : List Int} {O : OL} {vs : List V}, RepOt k F os O (ms.map D.int) vs → vs = ms.map V.int := fun {os ms} => by
      induction ms generalizing os with
      | nil => intro O vs h; cases h; rfl
      | cons m r ih => intro O vs h; cases h with | cons h t => cases h with | sh h => cases h; rw [ih t]; rfl
    rw [e rr] at hr
    exact ⟨_, rfl, seqT sf hr⟩
/-- the greatest and the least of a row of whole numbers -/
theorem mm_bl (hc : X.calm = true) (hu : X.A.units + 65 < cLine) (hK : X.K = k.K) {mx : Bool} : CallR X (.builtin (if mx then "max" else "min")) (rCl k (blD (if mx then .max else .min))) := by
  intro pins s σ H xs us Q I r hh
  obtain ⟨x, rfl, F, s1, s3, sf, a, hg, q⟩ := hh
  have key : ∃ n ns, (PyD.items s1.2).bind intsOf = some (n :: ns) ∧ s3 = (.sh, .int (if mx then maxI n ns else minI n ns)) := by
    cases mx with
    | true =>
      simp only [if_true, blD] at hg
      split at hg
      · rename_i n ns hi; cases hg; exact ⟨n, ns, hi, rfl⟩
      · cases hg
    | false =>
      simp only [Bool.false_eq_true, if_false, blD] at hg
      split at hg
      · rename_i n ns hi; cases hg; exact ⟨n, ns, hi, rfl⟩
      · cases hg
  obtain ⟨n, ns, hi, rfl⟩ := key
  obtain ⟨o, d⟩ := s1
  have fin : ∀ m t, m = (if mx then maxI n ns else minI n ns) → ∀ h' tk, (∀ b o, s.heap.get? b = some o → h'.get? b = some o) → EP X pins σ Q (.int m t) { s with heap := h', toks := tk } := fun m t e h' tk kk => by
    subst e
    exact ⟨.int _, H, I.kept kk, ⟨_, rfl⟩, q _ F H [] (Ext.refl sf) (.sh (.int _))⟩
  cases d with
  | lst ds =>
    obtain ⟨p, rfl, hs⟩ := a.ints sf rfl hi
    rw [← hK] at hs
    cases mx with
    | true =>
      exact cr_max hc pins s σ H _ us Q I r ⟨p, n :: ns, rfl, hs, Nat.succ_pos _, fun m hm hle => by
        obtain ⟨h1, h2, h3⟩ := maxI_spec ns n
        have e : m = maxI n ns := by
          apply Int.le_antisymm
          · rcases List.mem_cons.mp hm with e | e
            · subst e; exact h2
            · exact h3 m e
          · rcases h1 with h | h
            · rw [h]; exact hle n List.mem_cons_self
            · exact hle _ (List.mem_cons_of_mem _ h)
        rw [e]
        exact q _ F H [] (Ext.refl sf) (.sh (.int _))⟩
    | false =>
      exact cr_min hc pins s σ H _ us Q I r ⟨p, n :: ns, rfl, hs, Nat.succ_pos _, fun m hm hle => by
        obtain ⟨h1, h2, h3⟩ := minI_spec ns n
        have e : m = minI n ns := by
          apply Int.le_antisymm
          · rcases h1 with h | h
            · rw [h]; exact hle n List.mem_cons_self
            · exact hle _ (List.mem_cons_of_mem _ h)
          · rcases List.mem_cons.mp hm with e | e
            · subst e; exact h2
            · exact h3 m e
        rw [e]
        exact q _ F H [] (Ext.refl sf) (.sh (.int _))⟩
  | tup ds =>
    obtain ⟨p, rfl, hs⟩ := a.intsT sf rfl hi
    rw [← hK] at hs
    obtain ⟨its, rv, pl, hz⟩ := I.tuple hs
    rw [Vals.ref1 r]
    have ri := reads_ints (h := s.heap) rv.ints
    have hd : X.A.units + 1 + PyData.depthAll (PyData.int n :: ns.map PyData.int) < cLine := by
      have e := depth_ints (n :: ns)
      rw [List.map_cons] at e
      rw [e]
      omega
    cases mx with
    | true =>
      refine PySem.W.max_tuple_data (I.ok.hd hc) (show s.heap.IsTuple p its.toArray from pl) (by simpa using ri) (alike_ints (n :: ns)) hd fun i v h' tk bs _ rd kk => ?_
      rw [PySem.W.maxD_ints, maxI_fold] at rd
      cases rd
      exact fin _ _ rfl h' tk kk
    | false =>
      refine PySem.W.min_tuple_data (I.ok.hd hc) (show s.heap.IsTuple p its.toArray from pl) (by simpa using ri) (alike_ints (n :: ns)) hd fun i v h' tk bs _ rd kk => ?_
      rw [PySem.W.minD_ints, minI_fold] at rd
      cases rd
      exact fin _ _ rfl h' tk kk
  | _ => cases hi
theorem max_bl (hc : X.calm = true) (hu : X.A.units + 65 < cLine) (hK : X.K = k.K) : CallR X (.builtin "max") (rCl k (blD .max)) := mm_bl (mx := true) hc hu hK
theorem min_bl (hc : X.calm = true) (hu : X.A.units + 65 < cLine) (hK : X.K = k.K) : CallR X (.builtin "min") (rCl k (blD .min)) := mm_bl (mx := false) hc hu hK
theorem sum_bl (hc : X.calm = true) (hK : X.K = k.K) : CallR X (.builtin "sum") (rCl k (blD .sum)) := by
  intro pins s σ H xs us Q I r hh
  obtain ⟨x, rfl, F, s1, s3, sf, a, hg, q⟩ := hh
  obtain ⟨o, d⟩ := s1
  cases d with
  | lst ds =>
    simp only [blD] at hg
    split at hg
    · rename_i ns hi
      cases hg
      obtain ⟨p, rfl, hs⟩ := a.ints sf rfl hi
      rw [← hK] at hs
      exact cr_sum hc pins s σ H _ us Q I r ⟨p, ns, rfl, hs, q _ F H [] (Ext.refl sf) (.sh (.int _))⟩
    · cases hg
  | _ => cases hg
/-! ### isinstance, index, truth -/
theorem Arg.ty {F H : Hp} {s : Sl} {v : V} {t : String} (a : Arg k F H s v) (sf : Same F H) (e : tyD s.2 = some t) : TyX k.K H v (.type t) := by
  obtain ⟨o, d⟩ := s
  cases d with
  | non => cases e; cases arg_non a; exact .base .non
  | bl b => cases e; cases arg_bl a; exact .base (.bl b)
  | int b => cases e; cases arg_int a; exact .base (.int b)
  | str b => cases e; cases arg_str a; exact .base (.str b)
  | lst xs =>
    cases e
    obtain ⟨p, vs, rfl, hr, _⟩ := arg_lst a sf
    rcases hr with (h | ⟨u, h⟩) | ⟨o, its, n, h1, h2, _⟩
    · exact .base (.lst h)
    · exact .base (.frz h)
    · exact .kList h1 h2
  | tup xs =>
    cases e
    obtain ⟨p, vs, rfl, hr, _⟩ := arg_tup a
    rcases seqT sf hr with (h | ⟨u, h⟩) | ⟨o, its, n, h1, h2, _⟩
    · exact .base (.tup h)
    · exact .fTuple h
    · exact .kTuple h1 h2
  | _ => cases e
theorem atI_len {α β : Type} {xs : List α} {ys : List β} {i : Int} {x : α} (h : atI xs i = some x) (e : ys.length = xs.length) : ∃ (j : Nat) (y : β), xs[j]? = some x ∧ ys[j]? = some y ∧ atI ys i = some y := by
  unfold atI at h
  cases q : ixN xs.length i with
  | none => rw [q] at h; cases h
  | some j =>
    rw [q] at h
    have hj : j < xs.length := (List.getElem?_eq_some_iff.mp h).1
    refine ⟨j, ys[j]'(by omega), h, List.getElem?_eq_getElem (by omega), ?_⟩
    have q2 : ixN ys.length i = some j := by rw [e]; exact q
    unfold atI
    simp only [q2]
    exact List.getElem?_eq_getElem (by omega)
theorem Reps.at {F : Hp} : ∀ {ds : List D} {vs : List V} {j : Nat} {d : D} {v : V}, Reps k F ds vs → ds[j]? = some d → vs[j]? = some v → Rep k F d v
  | _, _, 0, _, _, .cons h _, e, e' => by cases e; cases e'; exact h
  | _, _, j + 1, _, _, .cons _ t, e, e' => t.at (j := j) e e'
theorem RepOl.at {F : Hp} : ∀ {o : Ow} {O : OL} {ds : List D} {vs : List V} {j : Nat} {d : D} {v : V}, RepOl k F o O ds vs → ds[j]? = some d → vs[j]? = some v → ∃ O', RepO k F o O' d v ∧ ∀ p ∈ O', p ∈ O
  | _, _, _, _, 0, _, _, .cons h _, e, e' => by cases e; cases e'; exact ⟨_, h, fun p hp => List.mem_append_left _ hp⟩
  | _, _, _, _, j + 1, _, _, .cons _ t, e, e' => by
    obtain ⟨O', r, h⟩ := t.at (j := j) e e'
    exact ⟨O', r, fun p hp => List.mem_append_right _ (h p hp)⟩
/-- the item at a place of what is known -/
theorem sub_of {F H : Hp} {s1 s3 : Sl} {i : D} {x : V} {Ob : OL} (sf : Same F H) (r : RepO k F s1.1 Ob s1.2 x) (hO : ∀ p ∈ Ob, H p.1 = some p.2) (e : subD s1 i = .ok s3) : ∃ (j : Int) (v : V) (O' : OL), i = .int j ∧ (∃ p vs, x = .ref p ∧ (SqL k.K H p vs ∨ SqT k.K H p vs) ∧ atI vs j = some v) ∧ RepO k F s3.1 O' s3.2 v ∧ ∀ p ∈ O', p ∈ Ob := by
  obtain ⟨o, d⟩ := s1
  unfold subD at e
  split at e
  · rename_i j xs h
    simp only at h
    subst h
    cases q : atI xs j with
    | none => rw [q] at e; cases e
    | some d =>
      rw [q] at e
      cases e
      cases r with
      | sh r =>
        cases r with
        | lst hr r =>
          obtain ⟨n, v, h1, h2, h3⟩ := atI_len q r.length
          exact ⟨j, v, [], rfl, ⟨_, _, rfl, .inl (sf.seq hr), h3⟩, .sh (r.at h1 h2), fun _ z => nomatch z⟩
      | lst r =>
        have hl : ∀ {o : Ow} {ds : List D} {O : OL} {vs : List V}, RepOl k F o O ds vs → vs.length = ds.length := fun {o ds} => by
          induction ds with
          | nil => intro O vs r; cases r; rfl
          | cons d r ih => intro O vs h; cases h with | cons h t => rw [List.length_cons, List.length_cons, ih t]
        obtain ⟨n, v, h1, h2, h3⟩ := atI_len q (hl r)
        obtain ⟨O', r', h⟩ := r.at h1 h2
        exact ⟨j, v, O', rfl, ⟨_, _, rfl, .inl (.inl (.inl (hO _ List.mem_cons_self))), h3⟩, r', fun p hp => List.mem_cons_of_mem _ (h p hp)⟩
  · rename_i j xs h
    simp only at h
    subst h
    cases q : atI xs j with
    | none => rw [q] at e; cases e
    | some d =>
      rw [q] at e
      cases r with
      | sh r =>
        cases e
        cases r with
        | tup hr r =>
          obtain ⟨n, v, h1, h2, h3⟩ := atI_len q r.length
          exact ⟨j, v, [], rfl, ⟨_, _, rfl, .inr (seqT sf hr), h3⟩, .sh (r.at h1 h2), fun _ z => nomatch z⟩
      | tup hr r => cases e
  · cases e
theorem indexD_spec : ∀ {vs : List V} {y : V} {n m : Nat}, indexD vs y n = .ok m → ∃ j z, m = n + j ∧ vs[j]? = some z ∧ eqV z y = true ∧ ∀ i z', i < j → vs[i]? = some z' → eqV z' y = false
  | [], _, _, _, h => by cases h
  | z :: r, y, n, m, h => by
    unfold indexD at h
    split at h
    · rename_i hz; cases h; exact ⟨0, z, rfl, rfl, hz, fun i _ hi => absurd hi (Nat.not_lt_zero _)⟩
    · rename_i hz
      obtain ⟨j, z', e, h1, h2, h3⟩ := indexD_spec h
      refine ⟨j + 1, z', by omega, h1, h2, fun i z'' hi hz' => ?_⟩
      cases i with
      | zero => cases hz'; exact Bool.eq_false_iff.mpr hz
      | succ i => exact h3 i z'' (by omega) hz'
theorem indexP_spec : ∀ {vs : List PyData} {y : PyData} {n m : Nat}, indexP vs y n = .ok m → ∃ j z, m = n + j ∧ vs[j]? = some z ∧ PyData.eqv z y = true ∧ ∀ i z', i < j → vs[i]? = some z' → PyData.eqv z' y = false
  | [], _, _, _, h => by cases h
  | z :: r, y, n, m, h => by
    unfold indexP at h
    split at h
    · rename_i hz; cases h; exact ⟨0, z, rfl, rfl, hz, fun i _ hi => absurd hi (Nat.not_lt_zero _)⟩
    · rename_i hz
      obtain ⟨j, z', e, h1, h2, h3⟩ := indexP_spec h
      refine ⟨j + 1, z', by omega, h1, h2, fun i z'' hi hz' => ?_⟩
      cases i with
      | zero => cases hz'; exact Bool.eq_false_iff.mpr hz
      | succ i => exact h3 i z'' (by omega) hz'
theorem indexP_exc : ∀ (vs : List PyData) (y : PyData) (n : Nat) e, indexP vs y n ≠ .exc e
  | [], _, _, _ => fun h => by cases h
  | z :: r, y, n, e => by
    unfold indexP
    split
    · exact fun h => by cases h
    · exact indexP_exc r y _ e
theorem index_exc : ∀ (vs : List V) (y : V) (n : Nat) e, indexD vs y n ≠ .exc e
  | [], _, _, _ => fun h => by cases h
  | z :: r, y, n, e => by
    unfold indexD
    split
    · exact fun h => by cases h
    · exact index_exc r y _ e
theorem tru_of {F H : Hp} {s : Sl} {x : V} {b : Bool} (sf : Same F H) (a : Arg k F H s x) (e : truD s.2 = .ok b) : TruV k.K x H b := by
  obtain ⟨o, d⟩ := s
  cases d with
  | non => cases e; cases arg_non a; exact rfl
  | bl c => cases e; cases arg_bl a; exact rfl
  | int c => cases e; cases arg_int a; exact rfl
  | lst xs =>
    cases e
    obtain ⟨p, vs, rfl, hr, hl, _⟩ := arg_lst a sf
    refine .inl ⟨vs, hr, ?_⟩
    cases xs <;> cases vs <;> first | rfl | cases hl
  | tup xs =>
    cases e
    obtain ⟨p, vs, rfl, hr, hl, _⟩ := arg_tup a
    refine .inr (.inl ⟨vs, seqT sf hr, ?_⟩)
    cases xs <;> cases vs <;> first | rfl | cases hl
  | _ => cases e
end
end PyD
end
section
set_option Elab.async false
set_option linter.all false
set_option maxRecDepth 100000
set_option maxHeartbeats 4000000
namespace PyD
open PySem PySem.Spec PyProof.Rows L2
section
variable {X : Cx} {k : Ki} {T : Tb} {E : L2.St → XK}
theorem ixOf_at {x : Str} : ∀ {N : List Str} {i : Nat}, ixOf x N = some i → N[i]? = some x
  | [], _, h => by cases h
  | y :: r, i, h => by
    unfold ixOf at h
    split at h
    · rename_i e; cases h; rw [e]; rfl
    · cases q : ixOf x r with
      | none => rw [q] at h; cases h
      | some j =>
        rw [q] at h; cases h
        have z : r[j]? = some x := ixOf_at q
        simpa using z
theorem okName_d {x : Str} (h : okName x = true) : (x == ("__debug__" : Str)) = false ∧ (x == ("__classdict__" : Str)) = false ∧ x ≠ "__name__" := by
  unfold okName at h
  simp only [Bool.and_eq_true, Bool.not_eq_true', beq_eq_false_iff_ne] at h
  exact ⟨beq_eq_false_iff_ne.mpr h.1.1, beq_eq_false_iff_ne.mpr h.1.2, h.2⟩
theorem slotOf_at {x : Str} {i : Nat} (h : slotOf T x = some i) : T.N[i]? = some x ∧ visB T.sc x = true ∧ okName x = true := by
  unfold slotOf at h
  split at h
  · rename_i e
    simp only [Bool.and_eq_true] at e
    exact ⟨ixOf_at h, e.1, e.2⟩
  · cases h
theorem out_mono {E : XK} {F H : Hp} {O : OL} {Q Q' : VK} {own : Bool} {x : R Sl} (h : Out k F H O Q own E x) (m : ∀ v H, Q v H → Q' v H) : Out k F H O Q' own E x := by
  cases x with
  | ok s => exact fun v F' H' Of Ob e r c => m _ _ (h v F' H' Of Ob e r c)
  | exc x => exact h
  | bad => exact h
theorem tD_mono {own : Bool} {sem : Ev} {σ : L2.St} {H : Hp} {Q Q' : VK} (h : tD k E own sem σ H Q) (m : ∀ v H, Q v H → Q' v H) : tD k E own sem σ H Q' := by
  obtain ⟨F, O, env, B, h⟩ := h
  exact ⟨F, O, env, B, out_mono h m⟩
theorem tDT_mono {sem : DEnv → R Bool} {σ : L2.St} {H : Hp} {Q Q' : Bool → Hp → Prop} (h : tDT k E sem σ H Q) (m : ∀ v H, Q v H → Q' v H) : tDT k E sem σ H Q' := by
  obtain ⟨F, O, env, B, h⟩ := h
  refine ⟨F, O, env, B, ?_⟩
  cases q : sem env with
  | ok s => rw [q] at h; exact fun F' H' e => m _ _ (h F' H' e)
  | exc x => rw [q] at h; exact h
  | bad => rw [q] at h; exact h
/-- what is new or shared may stand for what may be borrowed -/
theorem pe_weak {e : Expr} {sem : Ev} (h : PE X e (tD k E true sem)) : PE X e (tD k E false sem) := peI h fun σ H Q ⟨F, O, env, B, h⟩ => ⟨F, O, env, B, by
  cases q : sem env with
  | ok s => rw [q] at h; exact fun v F' H' Of Ob e r c => h v F' H' Of Ob e r (fun p hp => .inl (by rw [← show Ob = Of from c]; exact hp))
  | exc x => rw [q] at h; exact h
  | bad => rw [q] at h; exact h⟩
theorem pe_frz {e : Expr} {sem : Ev} (h : PE X e (tD k E true sem)) : PE X e (tD k E true (frzE sem)) := peI h fun σ H Q ⟨F, O, env, B, q⟩ => ⟨F, O, env, B, by
  have q : Out k F H O Q true (E σ) ((sem env).bind fun s => .ok (.sh, s.2)) := q
  cases z : sem env with
  | exc x => rw [z] at q; exact q
  | bad => rw [z] at q; exact q
  | ok s =>
    rw [z, R.bind_ok] at q
    intro v F' H' Of Ob e r c
    cases (show Ob = Of from c)
    have e' : Ext F H F' H' (Of ++ []) := by rw [List.append_nil]; exact e
    exact q v (frz F' Of) H' [] [] e'.freeze (.sh (r.frz (frz_same fun p hp => (e.own p hp).2.2) fun p hp => frz_at e.nd hp)) rfl⟩
theorem pe_varB {x : Str} {i : Nat} {pos : Pos} (O : XOk k T E X) (h : slotOf T x = some i) : PE X (.Name x pos) (tD k E false (varB i)) := by
  obtain ⟨h1, h2, h3⟩ := slotOf_at h
  obtain ⟨d1, d2, _⟩ := okName_d h3
  refine peI (pe_var (i := i) (by rw [O.hN]; exact h1) (O.vis x h2) d1 d2) fun σ H Q ⟨F, OO, env, B, q⟩ => ?_
  unfold varB at q
  split at q
  · rename_i s e
    obtain ⟨A, Bo, C, v, e1, e2, r, _⟩ := B.er.slot (o := s.1) (d := s.2) e
    refine ⟨v, e2, q v F H [] Bo (Ext.refl B.sf) r ?_⟩
    exact fun p hp => .inr (by rw [e1]; exact List.mem_append_right _ (List.mem_append_left _ hp))
  · exact q.elim
theorem pe_varE {x : Str} {i : Nat} {pos : Pos} (O : XOk k T E X) (h : slotOf T x = some i) : PE X (.Name x pos) (tD k E true (varE i)) := by
  refine peI (pe_varB O h) fun σ H Q ⟨F, OO, env, B, q⟩ => ⟨F, OO, env, B, ?_⟩
  unfold varE at q
  cases e : varB i env with
  | exc x => rw [e] at q; exact q
  | bad => rw [e] at q; exact q
  | ok s =>
    rw [e, R.bind_ok] at q
    unfold Sl.asSh at q
    split at q
    · rename_i hs
      intro v F' H' Of Ob e' r c
      obtain ⟨o, d⟩ := s
      simp only at hs
      subst hs
      cases r with
      | sh r => exact q v F' H' [] [] (e'.sub (fun _ z => nomatch z) List.nodup_nil) (.sh r) rfl
    · exact q.elim
theorem pe_lit {c : Const} {d : D} {j : Nat} {pos : Pos} (h : constD c = some d) : PE X (.Constant c j pos) (tD k E true fun _ => .ok (.sh, d)) := by
  cases c with
  | none => cases h; exact peI pe_non fun σ H Q ⟨F, OO, env, B, q⟩ => q.val B.sf .non
  | bool b => cases h; exact peI pe_bl fun σ H Q ⟨F, OO, env, B, q⟩ => q.val B.sf (.bl _)
  | int b => cases h; exact peI pe_int fun σ H Q ⟨F, OO, env, B, q⟩ => q.val B.sf (.int _)
  | str b => cases h; exact peI pe_str fun σ H Q ⟨F, OO, env, B, q⟩ => q.val B.sf (.str _)
  | _ => cases h
theorem XOk.Gl (O : XOk k T E X) {x : Str} (h : glB T.sc x = true) : Gl X x := O.gl x h
theorem pe_nameE {x : Str} {pos : Pos} (O : XOk k T E X) : PE X (.Name x pos) (tD k E true (nameE T x)) := by
  unfold nameE
  split
  · rename_i i h; exact pe_varE O h
  · split
    · rename_i h
      simp only [Bool.and_eq_true] at h
      split
      · rename_i d e
        obtain ⟨u, v, hm, hr, rep⟩ := O.con x d e
        exact peI (pe_glob (O.Gl h.1) hm hr (okName_d h.2).1) fun σ H Q ⟨F, OO, env, B, q⟩ => q.val B.sf (rep F)
      · exact peBad
    · exact peBad
theorem pe_binE {op : Operator} {a b : Expr} {sa sb : Ev} {pos : Pos} (O : XOk k T E X) (ha : PE X a (tD k E false sa)) (hb : PE X b (tD k E false sb)) : PE X (.BinOp a op b pos) (tD k E true (binE op sa sb)) :=
  peI (pe_op (bin_ok O.hK) ha hb) fun σ H Q h => tD_bin (bin_exc op) h
theorem pe_cmpE {op : CmpOp} {a b : Expr} {sa sb : Ev} {pos : Pos} (O : XOk k T E X) (ha : PE X a (tD k E false sa)) (hb : PE X b (tD k E false sb)) (hm : behindInMarks op b = false) : PE X (.Compare a [op] [b] pos) (tD k E true (cmpE op sa sb)) :=
  peI (pe_cmpR (cmp_ok O.hK O.un) ha hb hm) fun σ H Q h => tD_bin (cmp_exc op) h
theorem tDT_bl {sem : Ev} {own : Bool} {σ : L2.St} {H : Hp} {Q : Bool → Hp → Prop} (h : tDT k E (blT sem) σ H Q) : tD k E own sem σ H fun x H' => ∃ c, x = .bl c ∧ Q c H' := by
  obtain ⟨F, O, env, B, h⟩ := h
  refine ⟨F, O, env, B, OutT.fst (x := sem env) h fun s v F' H' Of Ob e x r c q => ?_⟩
  obtain ⟨o, d⟩ := s
  have A : Arg k F' H' (o, d) v := Arg.of B x r c
  cases d with
  | bl b => exact ⟨b, arg_bl A, q F' H' (Ext.refl x.fh)⟩
  | _ => exact q.elim
theorem pt_cmpE {op : CmpOp} {a b : Expr} {sa sb : Ev} {pos : Pos} (O : XOk k T E X) (ha : PE X a (tD k E false sa)) (hb : PE X b (tD k E false sb)) (hm : behindInMarks op b = false) : PT X (.Compare a [op] [b] pos) (tDT k E (blT (cmpE op sa sb))) :=
  ptI (pt_cmpR (cmp_ok O.hK O.un) ha hb hm) fun σ H Q h => tD_bin (cmp_exc op) (tDT_bl (own := true) h)
theorem tD_chain {op op' : CmpOp} {sa sb sc : Ev} {own : Bool} {σ : L2.St} {H : Hp} {Q : VK} (h : tD k E own (chainE op op' sa sb sc) σ H Q) : tChain (rOp k (cmpV op)) (rOp k (cmpV op')) (tD k E false sa) (tD k E false sb) (tD k E false sc) σ H Q := by
  obtain ⟨F, O, env, B, h⟩ := h
  refine ⟨F, O, env, B, Out.fst (x := sa env) h fun s1 v1 F1 H1 Of1 Ob1 e1 x1 r1 c1 h1 => ⟨F1, O, env, B.ext x1, Out.fst (x := sb env) h1 fun s2 v2 F2 H2 Of2 Ob2 e2 x2 r2 c2 h2 => ?_⟩⟩
  have A1 : Arg k F1 H1 s1 v1 := Arg.of B x1 r1 c1
  have B1 := B.ext x1
  have A2 : Arg k F2 H2 s2 v2 := Arg.of B1 x2 r2 c2
  cases q : cmpD op s1.2 s2.2 with
  | exc e => exact absurd q (cmpD_exc _ _ _ _)
  | bad => rw [q] at h2; exact h2.elim
  | ok b =>
    rw [q, R.bind_ok] at h2
    refine ⟨F2, s1, s2, (.sh, .bl b), x2.fh, A1.mono x2, A2, by unfold cmpV; rw [q]; rfl, fun v F' H' Of e r => ⟨b, ?_, ?_⟩⟩
    · cases r with
      | sh r => cases r; rfl
    · have B2 := (B1.ext x2).ext e
      have h3 := Out.shift h2 e
      cases b with
      | false => simp only [Bool.false_eq_true, if_false] at h3 ⊢; exact h3.val e.fh (.bl _)
      | true =>
        simp only [if_true] at h3 ⊢
        refine ⟨F', O, env, B2, Out.fst (x := sc env) h3 fun s4 v4 F4 H4 Of4 Ob4 e4 x4 r4 c4 h4 => ?_⟩
        have A4 : Arg k F4 H4 s4 v4 := Arg.of B2 x4 r4 c4
        cases q' : cmpD op' s2.2 s4.2 with
        | exc e => exact absurd q' (cmpD_exc _ _ _ _)
        | bad => rw [q'] at h4; exact h4.elim
        | ok b' =>
          rw [q', R.bind_ok] at h4
          exact ⟨F4, s2, s4, (.sh, .bl b'), x4.fh, (A2.mono e).mono x4, A4, by unfold cmpV; rw [q']; rfl, fun v F' H' Of e r => h4.new e r⟩
theorem pe_chainE {op op' : CmpOp} {a b c : Expr} {sa sb sc : Ev} {pos : Pos} (O : XOk k T E X) (ha : PE X a (tD k E false sa)) (hb : PE X b (tD k E false sb)) (hc : PE X c (tD k E false sc)) (hm : behindInMarks op' c = false) : PE X (.Compare a [op, op'] [b, c] pos) (tD k E true (chainE op op' sa sb sc)) :=
  peI (pe_chain (cmp_ok O.hK O.un) (cmp_ok O.hK O.un) ha hb hc (by unfold lastMarks lastMarks; exact hm)) fun σ H Q h => tD_chain h
theorem pt_chainE {op op' : CmpOp} {a b c : Expr} {sa sb sc : Ev} {pos : Pos} (O : XOk k T E X) (ha : PE X a (tD k E false sa)) (hb : PE X b (tD k E false sb)) (hc : PE X c (tD k E false sc)) (hm : behindInMarks op' c = false) : PT X (.Compare a [op, op'] [b, c] pos) (tDT k E (blT (chainE op op' sa sb sc))) :=
  ptI (pt_chain (cmp_ok O.hK O.un) (cmp_ok O.hK O.un) ha hb hc (by unfold lastMarks lastMarks; exact hm)) fun σ H Q h => tD_chain (tDT_bl (own := true) h)
theorem pe_notE {a : Expr} {sa : Ev} {pos : Pos} (ha : PE X a (tD k E false sa)) : PE X (.UnaryOp .Not a pos) (tD k E true (notE sa)) := by
  refine peI (pe_not ha) fun σ H Q ⟨F, O, env, B, h⟩ => ⟨F, O, env, B, Out.fst (x := sa env) h fun s1 v1 F1 H1 Of1 Ob1 e1 x1 r1 c1 h1 => ?_⟩
  have A1 : Arg k F1 H1 s1 v1 := Arg.of B x1 r1 c1
  obtain ⟨o, d⟩ := s1
  cases d with
  | bl b => exact ⟨b, arg_bl A1, h1.val x1.fh (.bl _)⟩
  | _ => exact h1.elim
theorem pe_negE {a : Expr} {sa : Ev} {pos : Pos} (ha : PE X a (tD k E false sa)) : PE X (.UnaryOp .USub a pos) (tD k E true (negE sa)) := by
  refine peI (pe_un un_neg ha) fun σ H Q ⟨F, O, env, B, h⟩ => ⟨F, O, env, B, Out.fst (x := sa env) h fun s1 v1 F1 H1 Of1 Ob1 e1 x1 r1 c1 h1 => ?_⟩
  have A1 : Arg k F1 H1 s1 v1 := Arg.of B x1 r1 c1
  obtain ⟨o, d⟩ := s1
  cases d with
  | int b => exact ⟨b, arg_int A1, h1.val x1.fh (.int _)⟩
  | _ => exact h1.elim
theorem pe_ifE {c a b : Expr} {tc : DEnv → R Bool} {sa sb : Ev} {pos : Pos} (hc : PT X c (tDT k E tc)) (ha : PE X a (tD k E true sa)) (hb : PE X b (tD k E true sb)) : PE X (.IfExp c a b pos) (tD k E true (ifE tc sa sb)) := by
  refine peI (pe_ifExp hc ha hb) fun σ H Q ⟨F, O, env, B, h⟩ => ⟨F, O, env, B, Out.fstT (x := tc env) h fun s F' H' e x q => ?_⟩
  cases s with
  | true => exact ⟨F', O, env, B.ext x, q⟩
  | false => exact ⟨F', O, env, B.ext x, q⟩
theorem pe_andE {a b : Expr} {rest : List Expr} {sa sb : Ev} {pos : Pos} (ha : PE X a (tD k E true sa)) (hb : PE X (.BoolOp .And (b :: rest) pos) (tD k E true sb)) : PE X (.BoolOp .And (a :: b :: rest) pos) (tD k E true (andE sa sb)) := by
  refine peI (pe_and ha hb) fun σ H Q ⟨F, O, env, B, h⟩ => ⟨F, O, env, B, Out.fst (x := sa env) h fun s1 v1 F1 H1 Of1 Ob1 e1 x1 r1 c1 h1 => ?_⟩
  have A1 : Arg k F1 H1 s1 v1 := Arg.of B x1 r1 c1
  obtain ⟨o, d⟩ := s1
  cases d with
  | bl b =>
    refine ⟨b, arg_bl A1, ?_⟩
    cases b with
    | true => exact ⟨F1, O, env, B.ext x1, h1⟩
    | false => exact h1.val x1.fh (.bl _)
  | _ => exact h1.elim
theorem pe_orE {a b : Expr} {rest : List Expr} {sa sb : Ev} {pos : Pos} (ha : PE X a (tD k E true sa)) (hb : PE X (.BoolOp .Or (b :: rest) pos) (tD k E true sb)) : PE X (.BoolOp .Or (a :: b :: rest) pos) (tD k E true (orE sa sb)) := by
  refine peI (pe_or ha hb) fun σ H Q ⟨F, O, env, B, h⟩ => ⟨F, O, env, B, Out.fst (x := sa env) h fun s1 v1 F1 H1 Of1 Ob1 e1 x1 r1 c1 h1 => ?_⟩
  have A1 : Arg k F1 H1 s1 v1 := Arg.of B x1 r1 c1
  obtain ⟨o, d⟩ := s1
  cases d with
  | bl b =>
    refine ⟨b, arg_bl A1, ?_⟩
    cases b with
    | false => exact ⟨F1, O, env, B.ext x1, h1⟩
    | true => exact h1.val x1.fh (.bl _)
  | _ => exact h1.elim
theorem pe_boolE {f : Expr → Ev} (h : ∀ e, PE X e (tD k E true (f e))) {op : BoolOp} {pos : Pos} : ∀ es : List Expr, PE X (.BoolOp op es pos) (tD k E true (boolE f op es))
  | [] => peBad
  | [a] => pe_one (h a)
  | a :: b :: r => by
    have ih := pe_boolE h (op := op) (pos := pos) (b :: r)
    cases op with
    | And => exact pe_andE (h a) ih
    | Or => exact pe_orE (h a) ih
/-! tests -/
theorem ptBad {e : Expr} : PT X e (tDT k E fun _ => .bad) := ⟨fun _ _ _ _ _ _ ⟨_, _, _, _, h⟩ => h.elim⟩
theorem pwBad {e : Expr} : PW X e (tDT k E fun _ => .bad) := ⟨fun _ _ _ _ _ _ _ ⟨_, _, _, _, h⟩ => h.elim⟩
theorem pw_boolT {f : Expr → DEnv → R Bool} (h : ∀ e, PT X e (tDT k E (f e))) {op : BoolOp} {pos : Pos} : ∀ es : List Expr, PW X (.BoolOp op es pos) (tDT k E (boolT f op es))
  | [] => pwBad
  | [a] => by
    cases op with
    | And => exact pw_and1 (h a)
    | Or => exact pw_or1 (h a)
  | a :: b :: r => by
    have ih := pw_boolT h (op := op) (pos := pos) (b :: r)
    cases op with
    | And =>
      refine pwI (pw_and (h a) ih) fun σ H Q ⟨F, O, env, B, q⟩ => ⟨F, O, env, B, OutT.fstT (x := f a env) q fun s F' H' e x q => ?_⟩
      cases s with
      | true => exact ⟨F', O, env, B.ext x, q⟩
      | false => exact q F' H' (Ext.refl x.fh)
    | Or =>
      refine pwI (pw_or (h a) ih) fun σ H Q ⟨F, O, env, B, q⟩ => ⟨F, O, env, B, OutT.fstT (x := f a env) q fun s F' H' e x q => ?_⟩
      cases s with
      | false => exact ⟨F', O, env, B.ext x, q⟩
      | true => exact q F' H' (Ext.refl x.fh)
theorem pt_notT {a : Expr} {t : DEnv → R Bool} {pos : Pos} (h : PT X a (tDT k E t)) : PT X (.UnaryOp .Not a pos) (tDT k E (notT t)) := by
  refine ptI (pt_not h) fun σ H Q ⟨F, O, env, B, q⟩ => ⟨F, O, env, B, OutT.fstT (x := t env) q fun s F' H' e x q => q F' H' (Ext.refl x.fh)⟩
theorem pt_truE {a : Expr} {sa : Ev} (O : XOk k T E X) (ha : PE X a (tD k E false sa)) (hp : plainTest a = true) : PT X a (tDT k E (truE sa)) := by
  refine ptI (pt_truth ha (fun whole => ?_)) fun σ H Q ⟨F, OO, env, B, q⟩ => ⟨F, OO, env, B, OutT.fst (x := sa env) q fun s v F' H' Of Ob e x r c q => ?_⟩
  · cases a with
    | UnaryOp op a p => cases op <;> first | rfl | cases hp
    | BoolOp => cases hp
    | IfExp => cases hp
    | Compare => cases hp
    | _ => rfl
  · cases z : truD s.2 with
    | ok b => rw [z] at q; exact ⟨b, by rw [O.hK]; exact tru_of x.fh (Arg.of B x r c) z, q F' H' (Ext.refl x.fh)⟩
    | exc e => rw [z] at q; obtain ⟨o, d⟩ := s; cases d <;> cases z
    | bad => rw [z] at q; exact q.elim
end
end PyD
end
section
set_option Elab.async false
set_option linter.all false
set_option maxRecDepth 100000
set_option maxHeartbeats 4000000
namespace PyD
open PySem PySem.Spec PyProof.Rows L2
/-! ### what is owned are lists -/
mutual
theorem RepO.lsts {k : Ki} {F : Hp} : ∀ {o : Ow} {O : OL} {d : D} {v : V}, o.ok = true → RepO k F o O d v → ∀ p ∈ O, ∃ xs, p.2 = .lst xs
  | _, _, _, _, _, .sh h, _, z => nomatch z
  | _, _, _, _, ok, .ino .., _, _ => by unfold Ow.ok at ok; cases ok
  | _, _, _, _, ok, .lst r, p, hp => by
    rcases List.mem_cons.mp hp with e | e
    · subst e; exact ⟨_, rfl⟩
    · exact RepOl.lsts (by unfold Ow.ok at ok; exact ok) r p e
  | _, _, _, _, ok, .tup h r, p, hp => RepOt.lsts (by unfold Ow.ok at ok; exact ok) r p hp
theorem RepOl.lsts {k : Ki} {F : Hp} : ∀ {o : Ow} {O : OL} {d : List D} {v : List V}, o.ok = true → RepOl k F o O d v → ∀ p ∈ O, ∃ xs, p.2 = .lst xs
  | _, _, _, _, _, .nil, _, z => nomatch z
  | _, _, _, _, ok, .cons h t, p, hp => by
    rcases List.mem_append.mp hp with e | e
    · exact RepO.lsts ok h p e
    · exact RepOl.lsts ok t p e
theorem RepOt.lsts {k : Ki} {F : Hp} : ∀ {o : List Ow} {O : OL} {d : List D} {v : List V}, Ow.oks o = true → RepOt k F o O d v → ∀ p ∈ O, ∃ xs, p.2 = .lst xs
  | _, _, _, _, _, .nil, _, z => nomatch z
  | _, _, _, _, ok, .cons h t, p, hp => by
    unfold Ow.oks at ok
    rw [Bool.and_eq_true] at ok
    rcases List.mem_append.mp hp with e | e
    · exact RepO.lsts ok.1 h p e
    · exact RepOt.lsts ok.2 t p e
end
/-- what is no list stays what it is -/
def Keep (F F' : Hp) : Prop := ∀ a u, (∀ xs, u ≠ .lst xs) → F a = some u → F' a = some u
theorem keepT {K : PySem.W.Frag} {F F' : Hp} (e : Keep F F') {a : Addr} {vs : List V} (h : SqT K F a vs) : SqT K F' a vs := by
  rcases h with (h | ⟨o, h⟩) | h
  · exact .inl (.inl (e _ _ (fun _ z => nomatch z) h))
  · exact .inl (.inr ⟨o, e _ _ (fun _ z => nomatch z) h⟩)
  · exact .inr h
mutual
theorem imm_rep {k : Ki} {F F' : Hp} (e : Keep F F') : ∀ {d : D} {v : V}, imm d = true → Rep k F d v → Rep k F' d v
  | _, _, _, .non => .non
  | _, _, _, .bl b => .bl b
  | _, _, _, .int b => .int b
  | _, _, _, .str b => .str b
  | _, _, i, .tup h r => .tup (keepT e h) (imms_rep e (by unfold imm at i; exact i) r)
  | _, _, i, .lst .. => by unfold imm at i; cases i
  | _, _, i, .iset .. => by unfold imm at i; cases i
  | _, _, i, .ins hc hk h r => by
    unfold imm at i
    exact .ins hc hk (e _ _ (fun _ z => nomatch z) h) (immF_rep e i r)
theorem imms_rep {k : Ki} {F F' : Hp} (e : Keep F F') : ∀ {d : List D} {v : List V}, imms d = true → Reps k F d v → Reps k F' d v
  | _, _, _, .nil => .nil
  | _, _, i, .cons h t => by
    unfold imms at i
    rw [Bool.and_eq_true] at i
    exact .cons (imm_rep e i.1 h) (imms_rep e i.2 t)
theorem immF_rep {k : Ki} {F F' : Hp} (e : Keep F F') : ∀ {d : List (Str × D)} {v : List (Str × V)}, immF d = true → RepF k F d v → RepF k F' d v
  | _, _, _, .nil => .nil
  | _, _, i, .cons h t => by
    unfold immF at i
    rw [Bool.and_eq_true] at i
    exact .cons (imm_rep e i.1 h) (immF_rep e i.2 t)
end
mutual
theorem immO_rep {k : Ki} {F F' : Hp} (e : Keep F F') : ∀ {o : Ow} {O : OL} {d : D} {v : V}, immO o d = true → RepO k F o O d v → RepO k F' o O d v
  | _, _, _, _, i, .sh h => .sh (imm_rep e (by unfold immO at i; exact i) h)
  | _, _, _, _, i, .lst r => .lst (immOl_rep e (by unfold immO at i; exact i) r)
  | _, _, _, _, i, .tup h r => .tup (keepT e h) (immOt_rep e (by unfold immO at i; exact i) r)
  | _, _, _, _, i, .ino _ _ _ _ => by unfold immO at i; cases i
theorem immOl_rep {k : Ki} {F F' : Hp} (e : Keep F F') : ∀ {o : Ow} {O : OL} {d : List D} {v : List V}, immOl o d = true → RepOl k F o O d v → RepOl k F' o O d v
  | _, _, _, _, _, .nil => .nil
  | _, _, _, _, i, .cons h t => by
    unfold immOl at i
    rw [Bool.and_eq_true] at i
    exact .cons (immO_rep e i.1 h) (immOl_rep e i.2 t)
theorem immOt_rep {k : Ki} {F F' : Hp} (e : Keep F F') : ∀ {o : List Ow} {O : OL} {d : List D} {v : List V}, immOt o d = true → RepOt k F o O d v → RepOt k F' o O d v
  | _, _, _, _, _, .nil => .nil
  | _, _, _, _, i, .cons h t => by
    unfold immOt at i
    rw [Bool.and_eq_true] at i
    exact .cons (immO_rep e i.1 h) (immOt_rep e i.2 t)
end
theorem repF_keep {k : Ki} {F F' : Hp} (e : Keep F F') : ∀ {fs : List (Str × D)} {vs : List (Str × V)}, (fs.all fun p => imm p.2) = true → RepF k F fs vs → RepF k F' fs vs
  | _, _, _, .nil => .nil
  | _, _, i, .cons h t => by
    rw [List.all_cons, Bool.and_eq_true] at i
    exact .cons (imm_rep e i.1 h) (repF_keep e i.2 t)
theorem repX_keep {k : Ki} {F F' : Hp} {x : Exn} {cls : Value} {dd : Option Addr} (e : Keep F F') (i : (x.fs.all fun p => imm p.2) = true) (r : RepX k F x cls dd) : RepX k F' x cls dd := by
  obtain ⟨C, h1, h2, h3⟩ := r
  refine ⟨C, h1, h2, ?_⟩
  rcases h3 with h | ⟨d, vfs, a, b, c⟩
  · exact .inl h
  · exact .inr ⟨d, vfs, a, e _ _ (fun _ z => nomatch z) b, repF_keep e i c⟩
section
variable {X : Cx} {k : Ki} {T : Tb} {E : L2.St → XK}
/-! ### rows of expressions -/
inductive RepLs (k : Ki) (F : Hp) (P : Addr × HO → Prop) : List Sl → List V → Prop where
  | nil : RepLs k F P [] []
  | cons {s : Sl} {v : V} {ss : List Sl} {vs : List V} {Ob : OL} (h : RepO k F s.1 Ob s.2 v) (c : ∀ p ∈ Ob, P p) (t : RepLs k F P ss vs) : RepLs k F P (s :: ss) (v :: vs)
theorem RepLs.mono {F F' : Hp} {P P' : Addr × HO → Prop} (e : Same F F') (i : ∀ p, P p → P' p) : ∀ {ss : List Sl} {vs : List V}, RepLs k F P ss vs → RepLs k F' P' ss vs
  | _, _, .nil => .nil
  | _, _, .cons h c t => .cons (h.mono e) (fun p hp => i p (c p hp)) (t.mono e i)
theorem RepLs.length {F : Hp} {P : Addr × HO → Prop} : ∀ {ss : List Sl} {vs : List V}, RepLs k F P ss vs → vs.length = ss.length
  | _, _, .nil => rfl
  | _, _, .cons _ _ t => by rw [List.length_cons, List.length_cons, t.length]
theorem RepLs.shs {F : Hp} {P : Addr × HO → Prop} : ∀ {ss : List Sl} {vs : List V}, RepLs k F P ss vs → ss.all (·.1.isSh) = true → Reps k F (ss.map (·.2)) vs
  | _, _, .nil, _ => .nil
  | _, _, .cons (s := s) h _ t, i => by
    rw [List.all_cons, Bool.and_eq_true] at i
    obtain ⟨o, d⟩ := s
    cases h with
    | sh h => exact .cons h (t.shs i.2)
    | lst => cases i.1
    | tup => cases i.1
    | ino => cases i.1
theorem RepLs.frz {F F' : Hp} {P : Addr × HO → Prop} (e : Same F F') (hP : ∀ p, P p → (∃ xs, p.2 = .lst xs) → F' p.1 = some p.2) : ∀ {ss : List Sl} {vs : List V}, ss.all (·.1.ok) = true → RepLs k F P ss vs → Reps k F' (ss.map (·.2)) vs
  | _, _, _, .nil => .nil
  | _, _, ok, .cons h c t => by
    rw [List.all_cons, Bool.and_eq_true] at ok
    exact .cons (h.frz e fun p hp => hP p (c p hp) (h.lsts ok.1 p hp)) (RepLs.frz e hP ok.2 t)
def OutA (k : Ki) (F H : Hp) (O : OL) (Q : List V → Hp → Prop) (E : XK) : R (List Sl) → Prop
  | .ok ss => ∀ vs F' H' Of, Ext F H F' H' Of → RepLs k F' (fun p => p ∈ Of ∨ p ∈ O) ss vs → Q vs H'
  | .exc x => ∀ F' H' cls dd, Ext F H F' H' [] → RepX k F' x cls dd → E cls dd H'
  | .bad => False
def tA (k : Ki) (E : L2.St → XK) (sem : DEnv → R (List Sl)) : TA := fun σ H Q => ∃ F O env, Bs k F O env σ H ∧ OutA k F H O Q (E σ) (sem env)
theorem OutA.fst {E : XK} {F H : Hp} {O : OL} {Q : VK} {own : Bool} {x : R (List Sl)} {f : List Sl → R Sl} {Q' : List V → Hp → Prop} (h : Out k F H O Q own E (x.bind f))
    (g : ∀ ss vs F' H' Of, x = .ok ss → Ext F H F' H' Of → RepLs k F' (fun p => p ∈ Of ∨ p ∈ O) ss vs → Out k F' H' O Q own E (f ss) → Q' vs H') : OutA k F H O Q' E x := by
  cases x with
  | ok s => exact fun v F' H' Of e r => g s v F' H' Of rfl e r (Out.shift h e)
  | exc x => exact h
  | bad => exact h
theorem star_cons {env : Env} {e : Expr} {es : List Expr} (h : star e = false) : starEach (e :: es) env = (false, eval e env) :: starEach es env := by
  cases e <;> first | rfl | cases h
theorem pa_L {f : Expr → Ev} (h : ∀ e, PE X e (tD k E false (f e))) : ∀ es : List Expr, es.any star = false → PA X es (tA k E (listE f es))
  | [], _ => paI pa_nil fun σ H Q ⟨F, O, env, B, q⟩ => q [] F H [] (Ext.refl B.sf) .nil
  | e :: es, hs => by
    rw [List.any_cons, Bool.or_eq_false_iff] at hs
    refine paI (pa_cons (h e) (pa_L h es hs.2) (star_cons hs.1)) fun σ H Q ⟨F, O, env, B, q⟩ => ⟨F, O, env, B, ?_⟩
    unfold listE at q
    cases z : f e env with
    | exc x => rw [z] at q; exact q
    | bad => rw [z] at q; exact q
    | ok s =>
      rw [z, R.bind_ok] at q
      intro v F1 H1 Of Ob x r c
      refine ⟨F1, O, env, B.ext x, ?_⟩
      cases z2 : listE f es env with
      | exc e' => rw [z2] at q; exact fun F' H' cls dd e r => q F' H' cls dd (x.drop e) r
      | bad => rw [z2] at q; exact q
      | ok ss =>
        rw [z2, R.bind_ok] at q
        refine fun vs F' H' Of' x' r' => q (v :: vs) F' H' (Of' ++ Of) (x.trans x') (.cons (r.mono x'.sF) (fun p hp => ?_) (r'.mono (Same.refl _) fun p hp => ?_))
        · rcases (show ∀ p ∈ Ob, p ∈ Of ∨ p ∈ O from c) p hp with z | z
          · exact .inl (List.mem_append_right _ z)
          · exact .inr z
        · rcases hp with z | z
          · exact .inl (List.mem_append_left _ z)
          · exact .inr z
theorem pe_lstE {f : Expr → Ev} (h : ∀ e, PE X e (tD k E true (f e))) {es : List Expr} {pos : Pos} (hs : es.any star = false) : PE X (.List es pos) (tD k E true (lstE f es)) := by
  refine peI (pe_lst (pa_L (fun e => pe_weak (h e)) es hs)) fun σ H Q ⟨F, O, env, B, q⟩ => ⟨F, O, env, B, OutA.fst (x := listE f es env) q fun ss vs F' H' Of e x r q => ?_⟩
  split at q
  · rename_i c
    simp only [Bool.and_eq_true, decide_eq_true_eq] at c
    exact ⟨by rw [r.length]; exact c.2, newL x.fh (r.shs c.1) fun v F' H' Of e r => q.new e r⟩
  · exact q.elim
theorem pe_tupE {f : Expr → Ev} (h : ∀ e, PE X e (tD k E true (f e))) {es : List Expr} {j : Nat} {pos : Pos} (hs : es.any star = false) : PE X (.Tuple es j pos) (tD k E true (tupE f es)) := by
  refine peI (pe_tup (pa_L (fun e => pe_weak (h e)) es hs)) fun σ H Q ⟨F, O, env, B, q⟩ => ⟨F, O, env, B, OutA.fst (x := listE f es env) q fun ss vs F' H' Of e x r q => ?_⟩
  split at q
  · rename_i c
    simp only [Bool.and_eq_true, decide_eq_true_eq] at c
    exact ⟨by rw [r.length]; exact c.2, newT x.fh (r.shs c.1) fun v F' H' Of e r => q.new e r⟩
  · exact q.elim
theorem RepLs.app {F : Hp} {P : Addr × HO → Prop} : ∀ {ss ss2 : List Sl} {vs vs2 : List V}, RepLs k F P ss vs → RepLs k F P ss2 vs2 → RepLs k F P (ss ++ ss2) (vs ++ vs2)
  | _, _, _, _, .nil, h => h
  | _, _, _, _, .cons h c t, h' => .cons h c (t.app h')
theorem tA_monoL {h : Expr → Ev} {es : List Expr} {σ : L2.St} {H : Hp} {Q Q' : List V → Hp → Prop} (q : tA k E (listE h es) σ H Q) (m : ∀ vs H, vs.length = es.length → Q vs H → Q' vs H) : tA k E (listE h es) σ H Q' := by
  obtain ⟨F, O, env, B, q⟩ := q
  refine ⟨F, O, env, B, ?_⟩
  have ln : ∀ (es : List Expr) (ss : List Sl), listE h es env = .ok ss → ss.length = es.length := fun es => by
    induction es with
    | nil => intro ss e; cases e; rfl
    | cons a r ih =>
      intro ss e
      unfold listE at e
      obtain ⟨x, _, e2⟩ := R.bind_eq_ok e
      obtain ⟨xs, e3, e4⟩ := R.bind_eq_ok e2
      cases e4
      rw [List.length_cons, List.length_cons, ih xs e3]
  cases z : listE h es env with
  | exc x => rw [z] at q; exact q
  | bad => rw [z] at q; exact q
  | ok ss => rw [z] at q; exact fun vs F' H' Of e r => m _ _ (by rw [r.length, ln es ss z]) (q vs F' H' Of e r)
/-! ### calls of defs -/
theorem plain_args {es : List Expr} {pos : Pos} {env : Env} (h : es.any star = false) : (backTo pos (starEach es env)).any (·.1) = false := by
  induction es with
  | nil => rfl
  | cons a r ih =>
    rw [List.any_cons, Bool.or_eq_false_iff] at h
    rw [star_cons h.1]
    simpa [backTo] using ih h.2
theorem listE_app {h : Expr → Ev} {es : List Expr} : ∀ {es0 : List Expr} {env : DEnv}, listE h (es0 ++ es) env = (listE h es0 env).bind fun xs => (listE h es env).bind fun ys => .ok (xs ++ ys)
  | [], env => by
    show listE h es env = (listE h es env).bind fun ys => .ok ([] ++ ys)
    cases listE h es env <;> rfl
  | e :: r, env => by
    show ((h e env).bind fun x => (listE h (r ++ es) env).bind fun xs => .ok (x :: xs)) = ((h e env).bind fun x => (listE h r env).bind fun xs => .ok (x :: xs)).bind _
    rw [listE_app (es0 := r)]
    cases h e env with
    | ok x => cases listE h r env <;> first | rfl | (cases listE h es env <;> rfl)
    | exc _ => rfl
    | bad => rfl
theorem tA_split {h : Expr → Ev} {es0 es : List Expr} {σ : L2.St} {H : Hp} {Q : List V → Hp → Prop} (q : tA k E (listE h (es0 ++ es)) σ H Q) : tA k E (listE h es0) σ H fun vs H1 => tA k E (listE h es) σ H1 fun zs H2 => Q (vs ++ zs) H2 := by
  obtain ⟨F, O, env, B, q⟩ := q
  refine ⟨F, O, env, B, ?_⟩
  rw [listE_app] at q
  cases z : listE h es0 env with
  | exc x => rw [z] at q; exact q
  | bad => rw [z] at q; exact q
  | ok ss =>
    rw [z, R.bind_ok] at q
    intro vs F1 H1 Of x r
    refine ⟨F1, O, env, B.ext x, ?_⟩
    cases z2 : listE h es env with
    | exc e' => rw [z2] at q; exact fun F' H' cls dd e r => q F' H' cls dd (x.drop e) r
    | bad => rw [z2] at q; exact q
    | ok ss2 =>
      rw [z2, R.bind_ok] at q
      refine fun zs F' H' Of' x' r' => q (vs ++ zs) F' H' (Of' ++ Of) (x.trans x') ?_
      have r1 : RepLs k F' (fun p => p ∈ Of' ++ Of ∨ p ∈ O) ss vs := r.mono x'.sF fun p hp => hp.elim (fun z => .inl (List.mem_append_right _ z)) .inr
      have r2 : RepLs k F' (fun p => p ∈ Of' ++ Of ∨ p ∈ O) ss2 zs := r'.mono (Same.refl _) fun p hp => hp.elim (fun z => .inl (List.mem_append_left _ z)) .inr
      exact r1.app r2
theorem pk_L {h : Expr → Ev} (hh : ∀ e, PE X e (tD k E false (h e))) : ∀ kws : List Keyword, PK X kws (tA k E (listE h (kwVals kws)))
  | [] => ⟨fun pos pins s σ H Q I ⟨F, O, env, B, q⟩ => pk_nil.run pos pins s σ H Q I (q [] F H [] (Ext.refl B.sf) .nil)⟩
  | ⟨nm, e, kp⟩ :: kws => by
    refine ⟨fun pos pins s σ H Q I q => (pk_cons (hh e) (pk_L hh kws)).run pos pins s σ H Q I ?_⟩
    obtain ⟨F, O, env, B, q⟩ := tA_split (es0 := [e]) (es := kwVals kws) q
    refine ⟨F, O, env, B, ?_⟩
    have q : OutA k F H O _ (E σ) ((h e env).bind fun x => .ok [x]) := q
    cases z : h e env with
    | exc x => rw [z] at q; exact q
    | bad => rw [z] at q; exact q
    | ok s =>
      rw [z, R.bind_ok] at q
      intro v F1 H1 Of Ob x r c
      exact q [v] F1 H1 Of x (.cons r c .nil)
/-- what a call asks of its arguments -/
theorem call_imp (O : XOk k T E X) {f : Str} {g : Sg} {h : Expr → Ev} {es : List Expr} (hsg : T.sg f = some g ∨ (T.sg f = none ∧ T.nw f = some g)) {σ : L2.St} {H : Hp} {Q : VK} (q : tD k E true (callE T f g h es) σ H Q) : tA k E (listE h es) σ H fun vs H1 => spOf k (T.call f) g vs H1 Q (E σ) := by
  obtain ⟨F, OO, env, B, q⟩ := q
  refine ⟨F, OO, env, B, OutA.fst (x := listE h es env) q fun ss vs F1 H1 Of _ x r q => ?_⟩
  split at q
  · rename_i c
    rw [Bool.and_eq_true, decide_eq_true_eq] at c
    obtain ⟨cl, cs⟩ := c
    refine ⟨by rw [r.length, cl], ?_⟩
    cases hal : g.al with
    | true =>
      have sh : ss.all (·.1.isSh) = true := by
        unfold okArgs at cs
        rw [hal] at cs
        exact cs
      refine ⟨F1, ss.map (·.2), x.fh, r.shs sh, ?_⟩
      cases z : T.call f (ss.map (·.2)) with
      | bad => rw [z] at q; exact q
      | exc e => rw [z] at q; exact q
      | ok d => rw [z] at q; exact fun v F' H' Or e r => Out.new (s := (g.ret, d)) q e r
    | false =>
      -- what the caller owns is lent, frozen
      have oks : ss.all (·.1.ok) = true := by
        unfold okArgs at cs
        rw [hal] at cs
        exact cs
      let L : List Addr := ((Of ++ OO).filter fun p => match p.2 with | .lst _ => true | _ => false).map (·.1)
      have B1 := B.ext x
      have at1 : ∀ p, (p ∈ Of ∨ p ∈ OO) → H1 p.1 = some p.2 := fun p hp => hp.elim (fun z => (x.own p z).2.1) fun z => (B1.ow p z).1
      have inL : ∀ p, (p ∈ Of ∨ p ∈ OO) → (∃ xs, p.2 = .lst xs) → p.1 ∈ L := fun p hp ⟨xs, e⟩ => by
        refine List.mem_map.mpr ⟨p, List.mem_filter.mpr ⟨List.mem_append.mpr hp, by rw [e]⟩, rfl⟩
      have ofL : ∀ a, a ∈ L → ∃ xs, H1 a = some (.lst xs) := fun a ha => by
        obtain ⟨p, hp, rfl⟩ := List.mem_map.mp ha
        obtain ⟨h1, h2⟩ := List.mem_filter.mp hp
        have z := at1 p (List.mem_append.mp h1)
        split at h2
        · rename_i xs e; exact ⟨xs, by rw [z, e]⟩
        · cases h2
      let Fc : Hp := fun a => if a ∈ L then H1 a else F1 a
      have sFc : Same F1 Fc := fun a o e => by
        show (if a ∈ L then H1 a else F1 a) = some o
        split
        · exact x.fh _ _ e
        · exact e
      have sFH : Same Fc H1 := fun a o e => by
        have e' : (if a ∈ L then H1 a else F1 a) = some o := e
        split at e'
        · exact e'
        · exact x.fh _ _ e'
      have rep : Reps k Fc (ss.map (·.2)) vs := RepLs.frz sFc (ss := ss) (hP := fun p hp hl => by
        show (if p.1 ∈ L then H1 p.1 else F1 p.1) = some p.2
        rw [if_pos (inL p hp hl)]; exact at1 p hp) oks r
      refine ⟨Fc, ss.map (·.2), sFH, rep, ?_⟩
      cases z : T.call f (ss.map (·.2)) with
      | bad => rw [z] at q; exact q
      | exc e =>
        rw [z] at q
        refine fun F' H' cls dd ex rx => ?_
        have im := O.imx f g _ e hsg z
        let F3 : Hp := fun a => if H1 a = none then F' a else F1 a
        have f3n : ∀ a, H1 a = none → F3 a = F' a := fun a h => if_pos h
        have f3s : ∀ a, H1 a ≠ none → F3 a = F1 a := fun a h => if_neg h
        have e3 : Ext F1 H1 F3 H' [] := by
          refine ⟨fun a o h => ?_, ex.sH, f3s, fun a o h => ?_, (fun _ z => nomatch z), List.nodup_nil⟩
          · rw [f3s a (by rw [x.fh _ _ h]; exact fun z => nomatch z)]; exact h
          · by_cases n : H1 a = none
            · rw [f3n a n] at h; exact ex.fh _ _ h
            · rw [f3s a n] at h; exact ex.sH _ _ (x.fh _ _ h)
        have kp : Keep F' F3 := fun a u nl h => by
          by_cases n : H1 a = none
          · rw [f3n a n]; exact h
          · rw [f3s a n]
            have h1 : Fc a = some u := by rw [← ex.ag a n]; exact h
            have h2 : (if a ∈ L then H1 a else F1 a) = some u := h1
            split at h2
            · rename_i hL
              obtain ⟨xs, e'⟩ := ofL a hL
              rw [e'] at h2
              exact absurd (Option.some.inj h2).symm (nl xs)
            · exact h2
        exact q F3 H' cls dd e3 (repX_keep kp im rx)
      | ok d =>
        rw [z] at q
        intro v F' H' Or e r'
        have im := O.im f g _ d hsg hal z
        let F3 : Hp := fun a => if H1 a = none then F' a else F1 a
        have f3n : ∀ a, H1 a = none → F3 a = F' a := fun a h => if_pos h
        have f3s : ∀ a, H1 a ≠ none → F3 a = F1 a := fun a h => if_neg h
        have e3 : Ext F1 H1 F3 H' Or := by
          refine ⟨fun a o h => ?_, e.sH, f3s, fun a o h => ?_, fun p hp => ?_, e.nd⟩
          · rw [f3s a (by rw [x.fh _ _ h]; exact fun z => nomatch z)]; exact h
          · by_cases n : H1 a = none
            · rw [f3n a n] at h; exact e.fh _ _ h
            · rw [f3s a n] at h; exact e.sH _ _ (x.fh _ _ h)
          · obtain ⟨h1, h2, h3⟩ := e.own p hp
            exact ⟨h1, h2, by rw [f3n _ h1]; exact h3⟩
        have kp : Keep F' F3 := fun a u nl h => by
          by_cases n : H1 a = none
          · rw [f3n a n]; exact h
          · rw [f3s a n]
            have h1 : Fc a = some u := by rw [← e.ag a n]; exact h
            have h2 : (if a ∈ L then H1 a else F1 a) = some u := h1
            split at h2
            · rename_i hL
              obtain ⟨xs, e'⟩ := ofL a hL
              rw [e'] at h2
              exact absurd (Option.some.inj h2).symm (nl xs)
            · exact h2
        exact Out.new (s := (g.ret, d)) q e3 (immO_rep kp im r')
  · exact q.elim

theorem kw_names {kws : List Keyword} {pos : Pos} {env : Env} {ks : List Str} (h : kwNames kws = ks.map some) : (backToKw pos (keywordEach kws env)).all (·.1.isSome) = true ∧ (backToKw pos (keywordEach kws env)).filterMap (·.1) = ks ∧ (backToKw pos (keywordEach kws env)).any (·.1.isNone) = false := by
  have e : (backToKw pos (keywordEach kws env)).map (·.1) = kwNames kws := by
    clear h
    have go : ∀ l : List Keyword, (backToKw pos (keywordEach l env)).map (·.1) = kwNames l := fun l => by
      induction l with
      | nil => rfl
      | cons q r ih =>
        obtain ⟨qa, qv, qp⟩ := q
        show qa :: (backToKw pos (keywordEach r env)).map (·.1) = qa :: kwNames r
        rw [ih]
    exact go kws
  rw [h] at e
  generalize backToKw pos (keywordEach kws env) = l at e
  clear h
  induction ks generalizing l with
  | nil => cases l <;> first | exact ⟨rfl, rfl, rfl⟩ | cases e
  | cons x r ih =>
    cases l with
    | nil => cases e
    | cons a l =>
      rw [List.map_cons, List.map_cons] at e
      obtain ⟨e1, e2⟩ := List.cons.inj e
      obtain ⟨h1, h2, h3⟩ := ih l e2
      refine ⟨?_, ?_, ?_⟩
      · rw [List.all_cons, h1, e1]; rfl
      · rw [List.filterMap_cons, e1, h2]
      · rw [List.any_cons, h3, e1]; rfl
def tCallNS (n m : Nat) (sp : Sp) (E : L2.St → XK) (t tk : TA) : TE := fun σ H Q => t σ H fun vs H1 => tk σ H1 fun zs H2 => vs.length = n ∧ zs.length = m ∧ sp (vs ++ zs) H2 Q (E σ)
theorem pe_callNS {CX : CXT} {lev n : Nat} {f : Addr} {fd : FuncData} {ps ks : List Str} {sp : Sp} {x : Str} {p pos : Pos} {e : Expr} {es : List Expr} {kws : List Keyword} {t tk : TA} (F : FnOk X.prog X.w X.K X.mg X.base CX lev f fd ps sp) (hr : Room lev X.A) (hg : Gl X x) (hm : X.mg x = some (.ref f)) (hk : PySem.W.keepIn X.K (.ref f) = true)
    (hb : KBn X.K fd ps n ks (fun a b => a ++ b) (fun a b => a ++ b)) (hx : ∀ σ, PassesAt CX X σ (E σ)) (ha : PA X (e :: es) t) (hkw : PK X kws tk) (hks : kwNames kws = ks.map some) (hdb : (x == ("__debug__" : Str)) = false) (hs : (e :: es).any star = false) : PE X (.Call (.Name x p) (e :: es) kws pos) (tCallNS n ks.length sp E t tk) := by
  obtain ⟨k1, k2, k3⟩ := kw_names (pos := pos) (env := X.env) hks
  have hs0 := hs
  rw [List.any_cons, Bool.or_eq_false_iff] at hs0
  have pl := plain_args (pos := pos) (env := X.env) hs
  refine ⟨fun pins s σ H Q I h => wpAny_Call_Name_kw (ld_glob I hg hm ?_ hdb)⟩
  refine PySem.W.callWith_KW (h₀ := X.base) I.ok.mod.kin hk k1 (thn (ha.run pos pins s σ H _ I h) fun us s1 ⟨vs, H1, I1, r, q⟩ => ?_) (by rw [pl, k3]; rfl) (star_cons hs0.1)
  refine thn (hkw.run pos pins s1 σ H1 _ I1 q) fun ws s2 ⟨zs, H2, I2, rz, l1, l2, q2⟩ => ⟨I2.kIn, ?_⟩
  rw [k2]
  have r2 := hb.rel r rz
  refine wpAny_call (codeAny_mono (F.run X.A X.stack s2 H2 ⟨us, ks.zip ws⟩ (us ++ ws) (vs ++ zs) Q (E σ) hr I2.env0 (hb.to s2 us ws I2.kIn (r.length.symm.trans l1) (rz.length.symm.trans l2)) r2 q2) fun c s' hq => ?_)
  cases c with
  | error y => exact hx σ pins H2 s2 y s' I2 hq
  | ok fl => cases fl <;> first | exact I2.after hq | exact hq.elim
theorem pe_fnE {f : Str} {g : Sg} {h : Expr → Ev} {es : List Expr} {kws : List Keyword} {p pos : Pos} (O : XOk k T E X) (hg : glB T.sc f = true) (hf : okName f = true) (hsg : T.sg f = some g) (hh : ∀ e, PE X e (tD k E false (h e))) (hs : es.any star = false) (hn : es.isEmpty = false) (hks : kwNames kws = g.kw.map some) :
    PE X (.Call (.Name f p) es kws pos) (tD k E true (callE T f g h (es ++ kwVals kws))) := by
  cases es with
  | nil => cases hn
  | cons e es =>
  obtain ⟨fa, fd, ps, lev, Fn, room, hm, hk, hb⟩ := (O.cal f g hsg).ex
  have hs0 := hs
  rw [List.any_cons, Bool.or_eq_false_iff] at hs0
  by_cases hkw : g.kw = []
  · have e0 : kws = [] := by
      rw [hkw] at hks
      cases kws with
      | nil => rfl
      | cons a r => cases hks
    subst e0
    refine peI (pe_callSD Fn room (O.Gl hg) hm hk (hb.1 hkw) .nil O.ps (pa_L hh (e :: es) hs) (hdb := (okName_d hf).1) (he := star_cons hs0.1) (hpl := plain_args hs0.2)) fun σ H Q q => ?_
    have z := call_imp O (.inl hsg) q
    show tA k E (listE h (e :: es)) σ H fun vs H1 => spOf k (T.call f) g (vs ++ []) H1 Q (E σ)
    have e1 : e :: es ++ kwVals [] = e :: es := List.append_nil _
    rw [e1] at z
    simpa only [List.append_nil] using z
  · obtain ⟨le, hb⟩ := hb.2 hkw
    refine peI (pe_callNS Fn room (O.Gl hg) hm hk hb O.ps (pa_L hh (e :: es) hs) (pk_L hh kws) hks (okName_d hf).1 hs) fun σ H Q q => ?_
    have z := tA_split (call_imp O (.inl hsg) q)
    have nk : (kwVals kws).length = g.kw.length := by
      have e1 : ∀ l : List Keyword, (kwVals l).length = (kwNames l).length := fun l => by
        induction l with
        | nil => rfl
        | cons a r ih => show (kwVals r).length + 1 = (kwNames r).length + 1; rw [ih]
      rw [e1, hks, List.length_map]
    refine tA_monoL z fun vs H1 l1 z => tA_monoL z fun zs H2 l2 z => ?_
    have l3 := z.1
    rw [List.length_append] at l3
    exact ⟨by omega, by omega, z⟩
theorem pe_newE {f : Str} {g : Sg} {h : Expr → Ev} {es : List Expr} {p pos : Pos} (O : XOk k T E X) (hg : glB T.sc f = true) (hf : okName f = true) (hsg : T.sg f = none) (hnw : T.nw f = some g) (hh : ∀ e, PE X e (tD k E false (h e))) (hs : es.any star = false) (hn : es.isEmpty = false) :
    PE X (.Call (.Name f p) es [] pos) (tD k E true (callE T f g h es)) := by
  cases es with
  | nil => cases hn
  | cons e es =>
  obtain ⟨cc, _, _, hret⟩ := O.new f g hsg hnw
  obtain ⟨C, fa, fd, ps, lev, M, Fn, room, hm, hb⟩ := cc.ex
  have hs0 := hs
  rw [List.any_cons, Bool.or_eq_false_iff] at hs0
  refine peI (pe_makeS M Fn room (O.Gl hg) hm hb O.ps (pa_L hh (e :: es) hs) (hdb := (okName_d hf).1) (he := star_cons hs0.1) (hpl := plain_args hs0.2)) fun σ H Q q => ?_
  have z := call_imp O (.inr ⟨hsg, hnw⟩) q
  refine tA_monoL z fun vs H1 _ z x dx n1 n2 ne => ?_
  obtain ⟨l, F, ds, sf, rp, z⟩ := z
  refine ⟨vs, x, dx, H1, rfl, rfl, n1, n2, ne, l, F, ds, sf, rp, ?_⟩
  cases w : T.call f ds with
  | bad => rw [w] at z; exact z
  | exc y => rw [w] at z; exact z
  | ok d =>
    rw [w] at z
    rw [hret] at z
    exact fun F' H' e r => ⟨rfl, z (.ref x) F' H' [] e (.sh r)⟩

/-! ### builtins -/
theorem boot_ty {t : Str} {b : String} (h : tyOf t = some b) : bootBuiltins t = some (.type b) := by
  unfold tyOf at h
  split at h
  · rename_i e; subst e; cases h; decide +kernel
  · split at h
    · rename_i e; subst e; cases h; decide +kernel
    · split at h
      · rename_i e; subst e; cases h; decide +kernel
      · split at h
        · rename_i e; subst e; cases h; decide +kernel
        · split at h
          · rename_i e; subst e; cases h; decide +kernel
          · cases h
theorem pe_isiE {e : Expr} {se : Ev} {t : Str} {p1 p2 pos : Pos} (O : XOk k T E X) (hg : glB T.sc "isinstance" = true) (ht : glB T.sc t = true) (hn : okName t = true) (hs : star e = false) (hty : (tyOf t).isSome = true) (he : PE X e (tD k E false se)) :
    PE X (.Call (.Name "isinstance" p1) [e, .Name t p2] [] pos) (tD k E true (isiE se t)) := by
  obtain ⟨b, hb⟩ := Option.isSome_iff_exists.mp hty
  have bt := boot_ty hb
  have hm : X.mg t = none := O.blt t (by unfold bname; rw [hb]; simp)
  refine peI (pe_callB call_isi (O.Gl hg) (O.blt _ (by decide +kernel)) (by decide +kernel) (pa_cons he (pa_cons (pe_bltn (v := .ty b) (O.Gl ht) hm bt rfl (okName_d hn).2.2 (okName_d hn).1) pa_nil) (star_cons hs)) (by decide) (by decide) (star_cons hs) rfl) fun σ H Q ⟨F, OO, env, B, q⟩ => ⟨F, OO, env, B, Out.fst (x := se env) q fun s1 v1 F1 H1 Of1 Ob1 e1 x1 r1 c1 h1 => ?_⟩
  have A1 : Arg k F1 H1 s1 v1 := Arg.of B x1 r1 c1
  unfold isiD at h1
  rw [hb] at h1
  split at h1
  · rename_i a b' ha hb'
    cases hb'
    cases z : kitB a b with
    | none => rw [z] at h1; exact h1.elim
    | some r =>
      rw [z] at h1
      have ty := A1.ty x1.fh ha
      rw [← O.hK] at ty
      exact ⟨v1, .ty b, _, _, r, rfl, .ty b, ty, kit_ty z, h1.val x1.fh (.bl _)⟩
  · exact h1.elim
end
end PyD
end
section
set_option Elab.async false
set_option linter.all false
set_option maxRecDepth 100000
set_option maxHeartbeats 4000000
namespace PyD
open PySem PySem.Spec PyProof.Rows L2
section
variable {X : Cx} {k : Ki} {T : Tb} {E : L2.St → XK}
theorem tD_cb {sa : Ev} {b : Bl} {σ : L2.St} {H : Hp} {Q : VK} (h : tD k E true (blE b sa) σ H Q) : tCB (rCl k (blD b)) (tCons (tD k E false sa) tNil) σ H Q :=
  tD_mono (tD_un (bl_exc b) h) fun v H r => ⟨v, rfl, r⟩
theorem pe_blE {x : Str} {b : Bl} {a : Expr} {sa : Ev} {p pos : Pos} (O : XOk k T E X) (hx : blOf x = some b) (hg : glB T.sc x = true) (hs : star a = false) (ha : PE X a (tD k E false sa)) : PE X (.Call (.Name x p) [a] [] pos) (tD k E true (blE b sa)) := by
  have hm : X.mg x = none := O.blt x (by unfold bname; rw [hx]; rfl)
  have B : ∀ {id : String}, CallR X (.builtin id) (rCl k (blD b)) → bootBuiltins x = some (.builtin id) → x ≠ "__name__" → (x == ("__debug__" : Str)) = false → PE X (.Call (.Name x p) [a] [] pos) (tD k E true (blE b sa)) := fun {id} r hb n1 n2 =>
    peI (pe_callB r (O.Gl hg) hm hb (pa_cons ha pa_nil (star_cons hs)) n1 n2 (star_cons hs) rfl) fun σ H Q h => tD_cb h
  have Ty : ∀ {id : String}, CallR X (.type id) (rCl k (blD b)) → bootBuiltins x = some (.type id) → x ≠ "__name__" → (x == ("__debug__" : Str)) = false → PE X (.Call (.Name x p) [a] [] pos) (tD k E true (blE b sa)) := fun {id} r hb n1 n2 =>
    peI (pe_callTy r (O.Gl hg) hm hb (pa_cons ha pa_nil (star_cons hs)) n1 n2 (star_cons hs) rfl) fun σ H Q h => tD_cb h
  unfold blOf at hx
  split at hx
  · rename_i e; subst e; cases hx; exact B (len_bl O.hK) (by decide +kernel) (by decide) (by decide)
  split at hx
  · rename_i e; subst e; cases hx; exact B abs_bl (by decide +kernel) (by decide) (by decide)
  split at hx
  · rename_i e; subst e; cases hx; exact Ty int_bl (by decide +kernel) (by decide) (by decide)
  split at hx
  · rename_i e; subst e; cases hx; exact Ty (tuple_bl O.hK) (by decide +kernel) (by decide) (by decide)
  split at hx
  · rename_i e; subst e; cases hx; exact Ty (list_bl O.hK) (by decide +kernel) (by decide) (by decide)
  split at hx
  · rename_i e; subst e; cases hx; exact Ty (set_bl O.calm O.hK O.hw) (by decide +kernel) (by decide) (by decide)
  split at hx
  · rename_i e; subst e; cases hx; exact B (sorted_bl O.calm O.hK O.hw) (by decide +kernel) (by decide) (by decide)
  split at hx
  · rename_i e; subst e; cases hx; exact B (max_bl O.calm O.un O.hK) (by decide +kernel) (by decide) (by decide)
  split at hx
  · rename_i e; subst e; cases hx; exact B (min_bl O.calm O.un O.hK) (by decide +kernel) (by decide) (by decide)
  split at hx
  · rename_i e; subst e; cases hx; exact B (sum_bl O.calm O.hK) (by decide +kernel) (by decide) (by decide)
  · cases hx
theorem plain_ix {b : Expr} (h : plainIx b = true) : PlainIx b := by
  intro o i
  cases b <;> first | rfl | cases h
theorem subD_exc (s : Sl) (i : D) (e : Exn) : subD s i ≠ .exc e := by
  intro h
  unfold subD at h
  split at h
  · cases q : atI _ _ with
    | none => rw [q] at h; cases h
    | some d => rw [q] at h; cases h
  · cases q : atI _ _ with
    | none => rw [q] at h; cases h
    | some d => rw [q] at h; rw [R.need_some, R.bind_ok] at h; split at h <;> cases h
  · cases h
theorem pe_subE {a b : Expr} {sa sb : Ev} {pos : Pos} (O : XOk k T E X) (ha : PE X a (tD k E false sa)) (hb : PE X b (tD k E true sb)) (hp : plainIx b = true) : PE X (.Subscript a b pos) (tD k E false (subE sa sb)) := by
  refine peI (pe_ix (ix_list.or ix_tup) ha (pe_weak hb) (plain_ix hp)) fun σ H Q ⟨F, OO, env, B, q⟩ => ⟨F, OO, env, B, Out.fst (x := sa env) q fun s1 v1 F1 H1 Of1 Ob1 e1 x1 r1 c1 h1 => ⟨F1, OO, env, B.ext x1, Out.fst (x := sb env) h1 fun s2 v2 F2 H2 Of2 Ob2 e2 x2 r2 c2 h2 => ?_⟩⟩
  have A2 : Arg k F2 H2 s2 v2 := Arg.of (B.ext x1) x2 r2 c2
  cases z : subD s1 s2.2 with
  | exc e => exact absurd z (subD_exc _ _ _)
  | bad => rw [z] at h2; exact h2.elim
  | ok s3 =>
    rw [z] at h2
    have inO : ∀ p ∈ Ob1, p ∈ Of1 ∨ p ∈ OO := c1
    have hO : ∀ p ∈ Ob1, H2 p.1 = some p.2 := fun p hp => (inO p hp).elim (fun z => x2.sH _ _ (x1.own p z).2.1) fun z => x2.sH _ _ (x1.sH _ _ (B.ow p z).1)
    obtain ⟨j, v, O', ej, hv, rep, sub⟩ := sub_of x2.fh (r1.mono x2.sF) hO z
    have ev2 : v2 = .int j := by
      obtain ⟨o2, d2⟩ := s2
      simp only at ej
      subst ej
      exact arg_int A2
    obtain ⟨p, vs, ev1, hs, hat⟩ := hv
    -- what the first part made is still there
    have qv : Q v H2 := by
      have e12 : Ext F H F2 H2 (Of2 ++ Of1) := x1.trans x2
      have q' : Out k F H OO Q false (E σ) (.ok s3) := by
        have z' := q
        unfold subE at z'
        rw [e1, R.bind_ok, e2, R.bind_ok, z] at z'
        exact z'
      refine q' v F2 H2 _ O' e12 rep fun p hp => ?_
      rcases inO p (sub p hp) with w | w
      · exact .inl (List.mem_append_right _ w)
      · exact .inr w
    subst ev2 ev1
    rcases hs with hs | hs
    · rw [← O.hK] at hs; exact .inl ⟨p, vs, j, v, rfl, rfl, hs, hat, qv⟩
    · rw [← O.hK] at hs; exact .inr ⟨p, vs, j, v, rfl, rfl, hs, hat, qv⟩

theorem pe_subSh {a b : Expr} {sa sb : Ev} {pos : Pos} (O : XOk k T E X) (ha : PE X a (tD k E false sa)) (hb : PE X b (tD k E true sb)) (hp : plainIx b = true) : PE X (.Subscript a b pos) (tD k E true fun env => (subE sa sb env).bind Sl.asSh) := by
  refine peI (pe_subE O ha hb hp) fun σ H Q ⟨F, OO, env, B, q⟩ => ⟨F, OO, env, B, ?_⟩
  cases e : subE sa sb env with
  | exc x => simp only [e] at q; exact q
  | bad => simp only [e] at q; exact q
  | ok s =>
    simp only [e, R.bind_ok] at q
    unfold Sl.asSh at q
    split at q
    · rename_i hs
      intro v F' H' Of Ob e' r c
      obtain ⟨o, d⟩ := s
      simp only at hs
      subst hs
      cases r with
      | sh r => exact q v F' H' [] [] (e'.sub (fun _ z => nomatch z) List.nodup_nil) (.sh r) rfl
    · exact q.elim
theorem base_ok {o : Expr} {m : Str} {env : Env} (h : call0 o = false) : attributeBase o m env (eval o env) = eval o env := by
  unfold attributeBase
  split
  · cases h
  · rfl
theorem Arg.itemsL {F H : Hp} {s : Sl} {v : V} {ds : List D} {ws : List V} (a : Arg k F H s v) (sf : Same F H) (e : s.2 = .lst ds) (e2 : D.vfs ds = some ws) : ∃ p, v = .ref p ∧ SqL k.K H p ws ∧ ws.all flatV = true := by
  obtain ⟨o, d⟩ := s
  subst e
  obtain ⟨p, vs, rfl, hr, _, _, O, _, h⟩ := arg_lst a sf
  rcases h with ⟨_, r⟩ | ⟨_, _, r⟩
  · obtain ⟨rfl, f⟩ := vfs_of r e2; exact ⟨p, rfl, hr, f⟩
  · obtain ⟨rfl, f⟩ := vfs_ol r e2; exact ⟨p, rfl, hr, f⟩
theorem mt_or {id : String} {r r' : V → List V → Hp → VK → Prop} (h : MtR X id r) (h' : MtR X id r') : MtR X id (fun x xs H Q => r x xs H Q ∨ r' x xs H Q) := by
  intro pins s σ H x xs v us Q I rx rs q
  rcases q with q | q
  · exact h pins s σ H x xs v us Q I rx rs q
  · exact h' pins s σ H x xs v us Q I rx rs q
theorem pe_idxE {o a : Expr} {so sa : Ev} {ap pos : Pos} (O : XOk k T E X) (ho : PE X o (tD k E false so)) (ha : PE X a (tD k E false sa)) (hs : star a = false) (h0 : call0 o = false) (hl : (ap.endLine == pos.line) = true) :
    PE X (.Call (.Attribute o "index" ap) [a] [] pos) (tD k E true (idxE so sa)) := by
  refine peI (pe_bm PySem.F.plainAttrs_list PySem.F.slot_list_index PySem.F.type_list_index (mt_or mt_index (mt_indexD O.un)) ho (pa_cons ha pa_nil (star_cons hs)) (base_ok h0) (by rw [star_cons hs]; rfl) hl (star_cons hs) rfl) fun σ H Q ⟨F, OO, env, B, q⟩ => ⟨F, OO, env, B, Out.fst (x := so env) q fun s1 v1 F1 H1 Of1 Ob1 e1 x1 r1 c1 h1 => ?_⟩
  have A1 : Arg k F1 H1 s1 v1 := Arg.of B x1 r1 c1
  obtain ⟨o1, d1⟩ := s1
  cases d1 with
  | lst ds =>
    obtain ⟨p, vs0, rfl, hr, hlen, _⟩ := arg_lst A1 x1.fh
    rw [← O.hK] at hr
    refine ⟨.inl ⟨rfl, vs0, hr⟩, F1, OO, env, B.ext x1, Out.fst (x := sa env) h1 fun s2 v2 F2 H2 Of2 Ob2 e2 x2 r2 c2 h2 => ?_⟩
    have A2 : Arg k F2 H2 s2 v2 := Arg.of (B.ext x1) x2 r2 c2
    have A1' := A1.mono x2
    cases hb : s2.2.vf with
    | none =>
      simp only [hb] at h2
      unfold idxP at h2
      split at h2
      · rename_i pp qs hp hq
        split at h2
        · rename_i hs
          simp only [Bool.and_eq_true] at hs
          cases q2 : indexP qs pp 0 with
          | exc e => exact absurd q2 (indexP_exc _ _ _ _)
          | bad => rw [q2] at h2; exact h2.elim
          | ok j =>
            rw [q2, R.bind_ok] at h2
            obtain ⟨i, z, ej, g1, g2, g3⟩ := indexP_spec q2
            have D1 := A1'.dp x2.fh (p := .list qs) (show (D.pys ds).map PyData.list = _ by rw [hq]; rfl)
            have D2 := A2.dp x2.fh hp
            rw [← O.hK] at D1 D2
            exact .inr ⟨p, v2, pp, qs, i, z, rfl, rfl, D1, D2, hs.2, hs.1, g1, g2, g3, by rw [ej, Nat.zero_add] at h2; exact h2.val x2.fh (.int _)⟩
        · exact h2.elim
      · exact h2.elim
    | some b =>
      simp only [hb] at h2
      cases q1 : D.vfs ds with
      | none => rw [q1] at h2; exact h2.elim
      | some vs =>
        rw [q1, R.need_some, R.bind_ok] at h2
        cases q2 : indexD vs b 0 with
        | exc e => exact absurd q2 (index_exc _ _ _ _)
        | bad => rw [q2] at h2; exact h2.elim
        | ok j =>
          rw [q2, R.bind_ok] at h2
          obtain ⟨i, z, ej, g1, g2, g3⟩ := indexD_spec q2
          obtain ⟨p', ep, hs', hf⟩ := A1'.itemsL x2.fh rfl q1
          cases ep
          have ev := arg_vf A2 hb
          subst ev
          rw [← O.hK] at hs'
          exact .inl ⟨p, vs, v2, i, z, rfl, rfl, hs', vf_flat hb, hf, g1, g2, g3, by rw [ej, Nat.zero_add] at h2; exact h2.val x2.fh (.int _)⟩
  | _ => exact h1.elim
/-! ### fields -/
theorem repF_get {F : Hp} {f : Str} {d : D} : ∀ {fs : List (Str × D)} {vs : List (Str × V)}, RepF k F fs vs → fs.lookup f = some d → ∃ v, vs.lookup f = some v ∧ Rep k F d v
  | _, _, .nil, h => by cases h
  | _, _, .cons (x := x) (d := d') (v := v') h t, e => by
    rw [List.lookup_cons] at e ⊢
    by_cases c : f = x
    · subst c
      simp at e ⊢
      subst e
      exact h
    · have cb : (f == x) = false := by simpa using c
      rw [cb] at e ⊢
      exact repF_get t e
theorem lookup_memS {α : Type} {f : Str} {d : α} : ∀ {l : List (Str × α)}, l.lookup f = some d → (f, d) ∈ l
  | [], h => by cases h
  | (x, y) :: r, h => by
    rw [List.lookup_cons] at h
    by_cases c : f = x
    · subst c
      simp at h
      subst h
      exact List.mem_cons_self
    · have cb : (f == x) = false := by simpa using c
      rw [cb] at h
      exact List.mem_cons_of_mem _ (lookup_memS h)
theorem pe_fldE {a : Expr} {f : Str} {sa : Ev} {pos : Pos} (O : XOk k T E X) (ha : PE X a (tD k E false sa)) (hp : plainBase a = true) : PE X (.Attribute a f pos) (tD k E true (fldE f sa)) := by
  refine peI (pe_fld ha (by cases a <;> first | rfl | cases hp)) fun σ H Q ⟨F, OO, env, B, q⟩ => ⟨F, OO, env, B, Out.fst (x := sa env) q fun s1 v1 F1 H1 Of1 Ob1 e1 x1 r1 c1 h1 => ?_⟩
  obtain ⟨o, d⟩ := s1
  cases d with
  | ins c fs =>
    have hO : ∀ p ∈ Ob1, H1 p.1 = some p.2 := fun p hp => ((show ∀ p ∈ Ob1, p ∈ Of1 ∨ p ∈ OO from c1) p hp).elim (fun z => (x1.own p z).2.1) fun z => x1.sH _ _ (B.ow p z).1
    have key : ∃ a C dx vfs, v1 = .ref a ∧ H1 a = some (.ins C dx vfs) ∧ (Cls k.K C ∧ ∀ p ∈ fs, NoAttr k.K C p.1) ∧ RepF k F1 fs vfs := by
      cases r1 with
      | sh r => cases r with | ins hc hk h r => exact ⟨_, _, _, _, rfl, x1.fh _ _ h, hk, r⟩
      | ino hc hk hm r => exact ⟨_, _, _, _, rfl, hO _ List.mem_cons_self, hk, r⟩
    obtain ⟨a, C, dx, vfs, rfl, hH, hk, rf⟩ := key
    unfold fldD at h1
    simp only at h1
    cases hl : fs.lookup f with
    | none => rw [hl] at h1; exact h1.elim
    | some d =>
      rw [hl] at h1
      obtain ⟨v, hv, rv⟩ := repF_get rf hl
      rw [← O.hK] at hk
      exact ⟨a, C, dx, vfs, v, rfl, hH, hk.1, hk.2 (f, d) (lookup_memS hl), hv, Out.val (d := d) h1 x1.fh rv⟩
  | _ => exact h1.elim
/-! ### parts, slices -/
def OutO (k : Ki) (F H : Hp) (Q : Option Int → Hp → Prop) (E : XK) : R (Option Int) → Prop
  | .ok b => ∀ F' H', Ext F H F' H' [] → Q b H'
  | .exc x => ∀ F' H' cls dd, Ext F H F' H' [] → RepX k F' x cls dd → E cls dd H'
  | .bad => False
def tO (k : Ki) (E : L2.St → XK) (sem : DEnv → R (Option Int)) : TO := fun σ H Q => ∃ F O env, Bs k F O env σ H ∧ OutO k F H Q (E σ) (sem env)
theorem po_part {s : Option Expr} {f : Expr → Ev} (h : ∀ e, PE X e (tD k E false (f e))) : PO X s (tO k E (partE (s.map f))) := by
  cases s with
  | none => exact ⟨fun pins s σ H Q I ⟨F, O, env, B, q⟩ => po_none.run pins s σ H Q I (q F H (Ext.refl B.sf))⟩
  | some e =>
    refine ⟨fun pins s σ H Q I ⟨F, O, env, B, q⟩ => (po_some (h e)).run pins s σ H Q I ⟨F, O, env, B, ?_⟩⟩
    have q : OutO k F H Q (E σ) ((f e env).bind partD) := q
    cases z : f e env with
    | exc x => rw [z] at q; exact q
    | bad => rw [z] at q; exact q
    | ok s1 =>
      rw [z, R.bind_ok] at q
      intro v F1 H1 Of Ob x r c
      have A : Arg k F1 H1 s1 v := Arg.of B x r c
      obtain ⟨o, d⟩ := s1
      cases d with
      | int i =>
        refine ⟨i, arg_int A, q (frz F1 Of) H1 ?_⟩
        have e' : Ext F H F1 H1 (Of ++ []) := by rw [List.append_nil]; exact x
        exact e'.freeze
      | _ => exact q.elim
theorem OutO.fst {E : XK} {F H : Hp} {O : OL} {Q : VK} {own : Bool} {x : R (Option Int)} {f : Option Int → R Sl} {Q' : Option Int → Hp → Prop} (h : Out k F H O Q own E (x.bind f)) (g : ∀ b F' H', x = .ok b → Ext F H F' H' [] → Out k F' H' O Q own E (f b) → Q' b H') : OutO k F H Q' E x := by
  cases x with
  | ok b => exact fun F' H' e => g b F' H' rfl e (Out.shift h e)
  | exc x => exact h
  | bad => exact h
theorem reps_drop {F : Hp} : ∀ {ds : List D} {vs : List V} (n : Nat), Reps k F ds vs → Reps k F (ds.drop n) (vs.drop n)
  | _, _, 0, h => h
  | _, _, n + 1, .nil => .nil
  | _, _, n + 1, .cons _ t => reps_drop n t
theorem reps_take {F : Hp} : ∀ {ds : List D} {vs : List V} (n : Nat), Reps k F ds vs → Reps k F (ds.take n) (vs.take n)
  | _, _, 0, h => .nil
  | _, _, n + 1, .nil => .nil
  | _, _, n + 1, .cons h t => .cons h (reps_take n t)
theorem reps_cut {F : Hp} {ds : List D} {vs : List V} (lo hi : Option Int) (r : Reps k F ds vs) : Reps k F (cutL ds lo hi) (cutV vs lo hi) := by
  have e := r.length
  unfold cutL cutV
  rw [e]
  exact reps_take _ (reps_drop _ r)
theorem sliD_exc (s : Sl) (l h : Option Int) (e : Exn) : sliD s l h ≠ .exc e := by
  intro q
  unfold sliD at q
  split at q <;> first | cases q | (split at q <;> cases q)
theorem cut_whole {α : Type} {xs : List α} {lo hi : Option Int} (h : HT.sIx xs.length 0 lo = 0 ∧ HT.sIx xs.length xs.length hi = xs.length) : cutL xs lo hi = xs := by
  unfold cutL
  rw [h.1, h.2, List.drop_zero, Nat.sub_zero, List.take_length]
theorem pe_sliE {a : Expr} {lo hi : Option Expr} {f : Expr → Ev} {p2 pos : Pos} (O : XOk k T E X) (hf : ∀ e, PE X e (tD k E false (f e))) : PE X (.Subscript a (.Slice lo hi none p2) pos) (tD k E true (sliE (f a) (lo.map f) (hi.map f))) := by
  refine peI (pe_slice (sl_list.or sl_tupA) (hf a) (po_part (s := lo) hf) (po_part (s := hi) hf)) fun σ H Q ⟨F, OO, env, B, q⟩ => ⟨F, OO, env, B, Out.fst (x := f a env) q fun s1 v1 F1 H1 Of1 Ob1 e1 x1 r1 c1 h1 => ⟨F1, OO, env, B.ext x1, OutO.fst (x := partE (lo.map f) env) h1 fun l F2 H2 e2 x2 h2 => ⟨F2, OO, env, (B.ext x1).ext x2, OutO.fst (x := partE (hi.map f) env) h2 fun h F3 H3 e3 x3 h3 => ?_⟩⟩⟩
  have A : Arg k F3 H3 s1 v1 := ((Arg.of B x1 r1 c1).mono x2).mono x3
  obtain ⟨o, d⟩ := s1
  cases d with
  | lst ds =>
    unfold sliD at h3
    simp only at h3
    split at h3
    · rename_i hfl
      obtain ⟨p, vs, rfl, hr, hl, rr, _⟩ := arg_lst A x3.fh
      rw [← O.hK] at hr
      exact .inl ⟨p, vs, rfl, hr, newL x3.fh (reps_cut l h (rr hfl)) fun v F' H' Of e r => h3.new e r⟩
    · exact h3.elim
  | tup ds =>
    unfold sliD at h3
    simp only at h3
    split at h3
    · rename_i hfl
      obtain ⟨p, vs, rfl, hr, hl, rr⟩ := arg_tup A
      have hr' := seqT x3.fh hr
      rw [← O.hK] at hr'
      refine .inr ⟨p, vs, rfl, hr', fun w => ?_, fun _ => newT x3.fh (reps_cut l h (rr hfl)) fun v F' H' Of e r => h3.new e r⟩
      rw [hl] at w
      rw [cut_whole w] at h3
      exact h3.val x3.fh (.tup hr (rr hfl))
    · exact h3.elim
  | _ => exact h3.elim
/-! ### max(a, b), min(a, b), list(range(n)) -/
theorem pe_mm2E {x : Str} {a b : Expr} {sa sb : Ev} {p pos : Pos} (O : XOk k T E X) (hx : x = "max" ∨ x = "min") (hg : glB T.sc x = true) (hs : star a = false) (hs2 : star b = false) (ha : PE X a (tD k E false sa)) (hb : PE X b (tD k E false sb)) : PE X (.Call (.Name x p) [a, b] [] pos) (tD k E true (mm2E (decide (x = "max")) sa sb)) := by
  have imp : ∀ {σ : L2.St} {H : Hp} {Q : VK}, tD k E true (mm2E (decide (x = "max")) sa sb) σ H Q → tD k E false sa σ H fun v1 H1 => tD k E false sb σ H1 fun v2 H2 => ∃ i j, v1 = .int i ∧ v2 = .int j ∧ Q (.int (if decide (x = "max") then (if j > i then j else i) else (if j < i then j else i))) H2 := by
    intro σ H Q ⟨F, OO, env, B, q⟩
    refine ⟨F, OO, env, B, Out.fst (x := sa env) q fun s1 v1 F1 H1 Of1 Ob1 e1 x1 r1 c1 h1 => ⟨F1, OO, env, B.ext x1, Out.fst (x := sb env) h1 fun s2 v2 F2 H2 Of2 Ob2 e2 x2 r2 c2 h2 => ?_⟩⟩
    have A1 : Arg k F2 H2 s1 v1 := (Arg.of B x1 r1 c1).mono x2
    have A2 : Arg k F2 H2 s2 v2 := Arg.of (B.ext x1) x2 r2 c2
    obtain ⟨o1, d1⟩ := s1
    obtain ⟨o2, d2⟩ := s2
    cases d1 with
    | int i =>
      cases d2 with
      | int j => exact ⟨i, j, arg_int A1, arg_int A2, h2.val x2.fh (.int _)⟩
      | _ => exact h2.elim
    | _ => exact h2.elim
  rcases hx with rfl | rfl
  · refine peI (pe_callB (call_max2 O.calm) (O.Gl hg) (O.blt _ (by decide +kernel)) (by decide +kernel) (pa_cons ha (pa_cons hb pa_nil (star_cons hs2)) (star_cons hs)) (by decide) (by decide) (star_cons hs) (plain_args (by simp [hs2]))) fun σ H Q q => ?_
    exact tD_mono (imp q) fun v1 H1 q => tD_mono q fun v2 H2 ⟨i, j, e1, e2, q⟩ => ⟨i, j, by rw [e1, e2], q⟩
  · refine peI (pe_callB (call_min2 O.calm) (O.Gl hg) (O.blt _ (by decide +kernel)) (by decide +kernel) (pa_cons ha (pa_cons hb pa_nil (star_cons hs2)) (star_cons hs)) (by decide) (by decide) (star_cons hs) (plain_args (by simp [hs2]))) fun σ H Q q => ?_
    exact tD_mono (imp q) fun v1 H1 q => tD_mono q fun v2 H2 ⟨i, j, e1, e2, q⟩ => ⟨i, j, by rw [e1, e2], q⟩
theorem rgV_ints (j : Int) : rgV 0 j = (((List.range j.toNat).map fun i : Nat => (i : Int)).map V.int) := by
  unfold rgV
  rw [Int.sub_zero, List.map_map]
  refine List.map_congr_left fun i _ => ?_
  show V.int (0 + (i : Int)) = V.int i
  rw [Int.zero_add]
theorem pe_rgE {x : Str} {a : Expr} {sa : Ev} {p p2 pos pos2 : Pos} (O : XOk k T E X) (hx : x = "list" ∨ x = "tuple") (hg : glB T.sc x = true) (hr : glB T.sc "range" = true) (hs : star a = false) (ha : PE X a (tD k E false sa)) : PE X (.Call (.Name x p) [.Call (.Name "range" p2) [a] [] pos2] [] pos) (tD k E true (rgE (decide (x = "tuple")) sa)) := by
  have rg := prg_1 (p := p2) (pos := pos2) (O.Gl hr) (O.blt _ (by decide +kernel)) ha (star_cons hs)
  have imp : ∀ {σ : L2.St} {H : Hp} {Q : VK}, tD k E true (rgE (decide (x = "tuple")) sa) σ H Q → tD k E false sa σ H fun v1 H1 => ∃ n, v1 = .int n ∧ RgOk 0 n ∧ ∃ F, Same F H1 ∧ Out k F H1 [] Q true (E σ) (if decide (x = "tuple") then .ok (.sh, .tup ((List.range n.toNat).map fun i : Nat => D.int i)) else .ok (.lst .sh, .lst ((List.range n.toNat).map fun i : Nat => D.int i))) := by
    intro σ H Q ⟨F, OO, env, B, q⟩
    refine ⟨F, OO, env, B, Out.fst (x := sa env) q fun s1 v1 F1 H1 Of1 Ob1 e1 x1 r1 c1 h1 => ?_⟩
    have A1 : Arg k F1 H1 s1 v1 := Arg.of B x1 r1 c1
    obtain ⟨o1, d1⟩ := s1
    cases d1 with
    | int n =>
      unfold rgD at h1
      simp only at h1
      split at h1
      · rename_i hn
        simp only [Bool.and_eq_true, decide_eq_true_eq] at hn
        refine ⟨n, arg_int A1, RgOk.of_le (Int.le_refl _) hn.2 (by decide) hn.1, F1, x1.fh, ?_⟩
        split at h1 <;> rename_i hx
        · rw [if_pos hx]; exact fun v F' H' Of Ob e r c => h1 v F' H' Of Ob e r c
        · rw [if_neg hx]; exact fun v F' H' Of Ob e r c => h1 v F' H' Of Ob e r c
      · exact h1.elim
    | _ => exact h1.elim
  have rp : ∀ {F : Hp} (n : Int), Reps k F ((List.range n.toNat).map fun i : Nat => D.int i) (rgV 0 n) := fun n => by
    have e : ((List.range n.toNat).map fun i : Nat => D.int i) = ((List.range n.toNat).map fun i : Nat => (i : Int)).map D.int := by rw [List.map_map]; rfl
    rw [e, rgV_ints]
    exact reps_of_ints _
  rcases hx with rfl | rfl
  · refine peI (pe_listRg O.calm (O.Gl hg) (O.blt _ (by decide +kernel)) rg) fun σ H Q q => ?_
    refine tD_mono (imp q) fun v1 H1 ⟨n, e, ok, F, sf, q⟩ => ⟨n, e, ok, ?_⟩
    exact newL sf (rp n) fun v F' H' Of e r => Out.new q e r
  · refine peI (pe_tupRg O.calm (O.Gl hg) (O.blt _ (by decide +kernel)) rg) fun σ H Q q => ?_
    refine tD_mono (imp q) fun v1 H1 ⟨n, e, ok, F, sf, q⟩ => ⟨n, e, ok, ?_⟩
    exact newT sf (rp n) fun v F' H' Of e r => Out.new q e r
end
end PyD
end
section
set_option Elab.async false
set_option linter.all false
set_option maxRecDepth 100000
set_option maxHeartbeats 4000000
namespace PyD
open PySem PySem.Spec PyProof.Rows L2
section
variable {X : Cx} {k : Ki} {T : Tb} {E : L2.St → XK}
/-! ### what is walked -/
/-- the walk J gives the items, wherever the frozen part stands -/
structure Wk (k : Ki) (J : It) (F : Hp) (xs : List D) : Prop where
  item : ∀ F1 H1 i d, Same F F1 → Same F1 H1 → xs[i]? = some d → J.go i H1 ∧ ∀ x H2, J.yld i H1 x H2 → H2 = H1 ∧ Rep k F1 d x
  stop : ∀ F1 H1, Same F F1 → Same F1 H1 → J.stop xs.length H1
def OutI (k : Ki) (F H : Hp) (R' : It → Hp → Prop) (E : XK) : R (List D) → Prop
  | .ok xs => ∀ J F' H' Of, Ext F H F' H' Of → Wk k J F' xs → R' J H'
  | .exc x => ∀ F' H' cls dd, Ext F H F' H' [] → RepX k F' x cls dd → E cls dd H'
  | .bad => False
def tI (k : Ki) (E : L2.St → XK) (sem : DEnv → R (List D)) : TI := fun σ H R' => ∃ F O env, Bs k F O env σ H ∧ OutI k F H R' (E σ) (sem env)
theorem piI {tg e : Expr} {t t' : TI} (h : PI X tg e t) (i : ∀ σ H Q, t' σ H Q → t σ H Q) : PI X tg e t' := ⟨fun pins s σ H Q I hw => h.run pins s σ H Q I (i σ H Q hw)⟩
def iSeq (K : PySem.W.Frag) (tl : TE) : TI := fun σ H R => tl σ H fun x H1 => ∃ a, x = .ref a ∧ (((∃ xs, SqL K H1 a xs) ∧ R (Itl K a) H1) ∨ ((∃ xs, SqT K H1 a xs) ∧ R (Itt K a) H1))
theorem pi_seq {tg l : Expr} {tl : TE} (hl : PE X l tl) : PI X tg l (iSeq X.K tl) := by
  refine ⟨fun pins s σ H R I h => thn (hl.run pins s σ H _ I h) fun v s1 ⟨x, H1, I1, r1, a, e, q⟩ => ?_⟩
  subst e
  cases r1
  have kp : Inv X pins σ H1 s1 → ∀ o : Obj, Inv X pins σ H1 { s1 with heap := s1.heap.push o } := fun I o => I.kept (t' := s1.toks) fun b u e => Heap.get?_push_of_some _ e
  have fp : ∀ b ∈ [s1.heap.objs.size], FpOk X pins H1 b := fun b hb => by
    rw [List.mem_singleton.mp hb]; exact I1.fpOk (Nat.le_refl _) I1.fresh
  rcases q with ⟨⟨xs, hq⟩, q⟩ | ⟨⟨xs, hq⟩, q⟩
  · obtain ⟨its, rv, p, hz⟩ := I1.list hq
    exact wpAny_pyIter_list p.isList ⟨_, [s1.heap.objs.size], _, _, H1, rfl, kp I1 _, turn_list a _, ⟨_, Heap.get?_push_size _ rfl, rfl, rfl⟩, fp, q⟩
  · obtain ⟨its, rv, p, hz⟩ := I1.tuple hq
    exact wpAny_pyIter_tuple (show s1.heap.IsTuple a its.toArray from p) ⟨_, [s1.heap.objs.size], _, _, H1, rfl, kp I1 _, turn_tuple a _, ⟨_, Heap.get?_push_size _ rfl, rfl, rfl⟩, fp, q⟩
theorem OutI.fst {E : XK} {F H : Hp} {O : OL} {R' : It → Hp → Prop} {Q' : VK} {b : Bool} {x : R Sl} {f : Sl → R (List D)} (h : OutI k F H R' E (x.bind f))
    (g : ∀ s v F' H' Of Ob, x = .ok s → Ext F H F' H' Of → RepO k F' s.1 Ob s.2 v → (if b = true then Ob = Of else ∀ p ∈ Ob, p ∈ Of ∨ p ∈ O) → OutI k F' H' R' E (f s) → Q' v H') : Out k F H O Q' b E x := by
  cases x with
  | ok s =>
    refine fun v F' H' Of Ob e r c => g s v F' H' Of Ob rfl e r c ?_
    rw [R.bind_ok] at h
    cases z : f s with
    | ok xs => rw [z] at h; exact fun J F2 H2 O2 e2 w => h J F2 H2 O2 (e.drop e2) w
    | exc x => rw [z] at h; exact fun F2 H2 cls dd e2 w => h F2 H2 cls dd (e.drop e2) w
    | bad => rw [z] at h; exact h
  | exc x => exact h
  | bad => exact h
theorem Reps.get {F : Hp} : ∀ {ds : List D} {vs : List V} {i : Nat} {d : D}, Reps k F ds vs → ds[i]? = some d → ∃ v, vs[i]? = some v ∧ Rep k F d v
  | _, _, 0, _, .cons h _, e => by cases e; exact ⟨_, rfl, h⟩
  | _, _, i + 1, _, .cons _ t, e => t.get (i := i) e
theorem wk_seq (hK : X.K = k.K) {F : Hp} {d : D} {v : V} {xs : List D} (r : Rep k F d v) (e : PyD.items d = some xs) (H : Hp) (sf : Same F H) : ∃ a, v = .ref a ∧ (((∃ vs, SqL X.K H a vs) ∧ Wk k (Itl X.K a) F xs) ∨ ((∃ vs, SqT X.K H a vs) ∧ Wk k (Itt X.K a) F xs)) := by
  cases r with
  | @lst a vs ds hr r =>
    cases e
    rw [← hK] at hr
    refine ⟨a, rfl, .inl ⟨⟨vs, sf.seq hr⟩, fun F1 H1 i d s1 s2 hd => ?_, fun F1 H1 s1 s2 => ⟨vs, s2.seq (s1.seq hr), by rw [r.length]; exact Nat.le_refl _⟩⟩⟩
    obtain ⟨v, hv, rv⟩ := r.get hd
    have q : SqL X.K H1 a vs := s2.seq (s1.seq hr)
    refine ⟨⟨vs, v, q, hv⟩, fun x H2 ⟨e1, e2⟩ => ⟨e1, ?_⟩⟩
    have z := e2 vs q
    rw [hv] at z; cases z
    exact rv.mono s1
  | @tup a vs ds hr r =>
    cases e
    rw [← hK] at hr
    refine ⟨a, rfl, .inr ⟨⟨vs, seqT sf hr⟩, fun F1 H1 i d s1 s2 hd => ?_, fun F1 H1 s1 s2 => ⟨vs, seqT s2 (seqT s1 hr), by rw [r.length]; exact Nat.le_refl _⟩⟩⟩
    obtain ⟨v, hv, rv⟩ := r.get hd
    have q : SqT X.K H1 a vs := seqT s2 (seqT s1 hr)
    refine ⟨⟨vs, v, q, hv⟩, fun x H2 ⟨e1, e2⟩ => ⟨e1, ?_⟩⟩
    have z := e2 vs q
    rw [hv] at z; cases z
    exact rv.mono s1
  | _ => cases e
theorem pi_seqD {tg l : Expr} {sl : Ev} (O : XOk k T E X) (hl : PE X l (tD k E true sl)) : PI X tg l (tI k E (Src.seq sl).run) := by
  refine piI (pi_seq hl) fun σ H R' ⟨F, OO, env, B, q⟩ => ⟨F, OO, env, B, OutI.fst (x := sl env) q fun s v F' H' Of Ob e x r c q => ?_⟩
  unfold iterD at q
  split at q
  · rename_i hs
    obtain ⟨o, d⟩ := s
    cases r with
    | sh r =>
      cases z : PyD.items d with
      | none => rw [z] at q; exact q.elim
      | some xs =>
        rw [z] at q
        obtain ⟨a, e, w⟩ := wk_seq O.hK r z H' x.fh
        refine ⟨a, e, ?_⟩
        rcases w with ⟨p, w⟩ | ⟨p, w⟩
        · exact .inl ⟨p, q _ F' H' [] (Ext.refl x.fh) w⟩
        · exact .inr ⟨p, q _ F' H' [] (Ext.refl x.fh) w⟩
    | lst => cases hs
    | tup => cases hs
    | ino => cases hs
  · exact q.elim
theorem wk_range (n : Nat) {F : Hp} : Wk k (Itr 0 n) F ((List.range n).map fun i : Nat => D.int i) := by
  refine ⟨fun F1 H1 i d s1 s2 hd => ?_, fun F1 H1 s1 s2 => ?_⟩
  · have hi : i < n := by
      have z := (List.getElem?_eq_some_iff.mp hd).1
      simpa using z
    refine ⟨hi, fun x H2 ⟨e1, e2⟩ => ⟨e1, ?_⟩⟩
    have z : ((List.range n).map fun i : Nat => D.int i)[i]? = some (D.int i) := by
      rw [List.getElem?_map, List.getElem?_range hi]; rfl
    rw [z] at hd; cases hd
    rw [e2]
    simp only [Int.zero_add]
    exact .int _
  · show n ≤ _
    simp
theorem pi_rangeD {tg a : Expr} {sa : Ev} {p pos : Pos} (O : XOk k T E X) (hg : glB T.sc "range" = true) (hs : star a = false) (ha : PE X a (tD k E false sa)) : PI X tg (.Call (.Name "range" p) [a] [] pos) (tI k E (Src.range sa).run) := by
  refine piI (pi_range1 (O.Gl hg) (O.blt _ (by decide +kernel)) (pa_cons ha pa_nil (star_cons hs)) (star_cons hs)) fun σ H R' ⟨F, OO, env, B, q⟩ => ⟨F, OO, env, B, OutI.fst (x := sa env) q fun s v F' H' Of Ob e x r c q => ?_⟩
  have A : Arg k F' H' s v := Arg.of B x r c
  obtain ⟨o, d⟩ := s
  cases d with
  | int j =>
    have q : OutI k F' H' R' (E σ) (if decide (-(2 ^ 62) ≤ j) && decide (j < 2 ^ 62) then .ok ((List.range j.toNat).map fun i : Nat => D.int i) else .bad) := q
    by_cases hb : (decide (-(2 ^ 62) ≤ j) && decide (j < 2 ^ 62)) = true
    · rw [if_pos hb] at q
      simp only [Bool.and_eq_true, decide_eq_true_eq] at hb
      exact ⟨j, by rw [arg_int A], hb.1, hb.2, q _ F' H' [] (Ext.refl x.fh) (wk_range _)⟩
    · rw [if_neg hb] at q; exact q.elim
  | _ => exact q.elim
theorem isRange_of {e a : Expr} (h : isRange e = some a) : ∃ p pos, e = .Call (.Name "range" p) [a] [] pos := by
  unfold isRange at h
  split at h
  · split at h
    · rename_i e; cases h; subst e; exact ⟨_, _, rfl⟩
    · cases h
  · cases h
theorem piBad {tg e : Expr} : PI X tg e (tI k E (Src.seq fun _ => .bad).run) := ⟨fun _ _ _ _ _ _ ⟨_, _, _, _, h⟩ => h.elim⟩
theorem pi_src {s : Sm} {tg e : Expr} (O : XOk k T E X) (hB : ∀ e, PE X e (tD k E false (s.B T e))) (hE : ∀ e, PE X e (tD k E true (s.E T e))) : PI X tg e (tI k E (srcOf T s e).run) := by
  unfold srcOf
  split
  · rename_i a h
    obtain ⟨p, pos, rfl⟩ := isRange_of h
    split
    · rename_i c
      simp only [Bool.and_eq_true, Bool.not_eq_true'] at c
      exact pi_rangeD O c.1 c.2 (hB a)
    · exact piBad
  · exact pi_seqD O (pe_frz (hE e))
/-! ### the block of a comprehension -/
theorem lookup_map {f : Str × NameKind → Str × NameKind} (hf : ∀ y, (f y).1 = y.1) : ∀ {l : List (Str × NameKind)} {x : Str}, (l.map f).lookup x = (l.lookup x).map fun kd => (f (x, kd)).2
  | [], _ => rfl
  | (y, kd) :: r, x => by
    rw [List.map_cons]
    have e : f (y, kd) = (y, (f (y, kd)).2) := Prod.ext (hf _) rfl
    rw [e, List.lookup_cons, List.lookup_cons]
    by_cases h : x = y
    · subst h; simp
    · have : (x == y) = false := by simp [h]
      simp only [this]
      exact lookup_map hf
theorem relab {env : Env} {scope : Scope} {x : Str} : (relabel scope env).names.lookup x = (scope.names.lookup x).map fun kd => if (kd == .free && env.scope.kind == .function && env.kindOf x == some .cell) then .cell else kd := by
  unfold relabel
  rw [lookup_map (f := fun y => if (y.2 == .free && env.scope.kind == .function && env.kindOf y.1 == some .cell) then (y.1, .cell) else (y.1, y.2))]
  · cases scope.names.lookup x with
    | none => rfl
    | some kd => simp only [Option.map_some]; split <;> rfl
  · intro y; split <;> rfl
theorem XOk.blk (O : XOk k T E X) (s : Shared) (H : Hp) (scope : Scope) (cl : List (Str × Addr)) (C : Addr) (fp : List Addr) : XOk k { T with sc := scope } (fun _ => E0) (X.blk s H scope (compEnvC scope cl C X.env) fp) where
  hN := O.hN
  nd := O.nd
  calm := O.calm
  hK := O.hK
  hw := O.hw
  un := O.un
  vis := fun x h => by
    unfold visB at h
    show Vis (relabel scope X.env) x
    unfold Vis
    rw [relab]
    split at h
    · rename_i e; left; rw [e]; rfl
    · rename_i e; right; left; rw [e]; rfl
    · rename_i e; right
      rw [e, Option.map_some]
      split
      · exact .inl rfl
      · exact .inr rfl
    · cases h
  loc := fun x h => by
    unfold locB at h
    show L2.Loc (relabel scope X.env) x
    unfold L2.Loc
    rw [relab]
    split at h
    · rename_i e; left; rw [e]; rfl
    · rename_i e; right; rw [e]; rfl
    · cases h
  gl := fun x h => by
    unfold glB at h
    show (relabel scope X.env).names.lookup x = _
    rw [relab]
    split at h
    · rename_i e; rw [e]; rfl
    · cases h
  fr := fun x h => by
    show (relabel scope X.env).names.lookup x = _ ∨ (relabel scope X.env).names.lookup x = _
    rw [relab]
    rcases h with e | e
    · left; rw [show scope.names.lookup x = some .cell from e]; rfl
    · rw [show scope.names.lookup x = some .free from e, Option.map_some]
      split
      · exact .inl rfl
      · exact .inr rfl
  blt := O.blt
  cal := fun f g h => ⟨(O.cal f g h).ex⟩
  new := fun c g h0 h => ⟨⟨(O.new c g h0 h).1.ex⟩, (O.new c g h0 h).2⟩
  con := O.con
  cls := O.cls
  exc := O.exc
  ps := fun σ pins H s e s' I c => passL pins σ H s e s' I c
  im := O.im
  imx := O.imx
end
end PyD
end
section
set_option Elab.async false
set_option linter.all false
set_option maxRecDepth 100000
set_option maxHeartbeats 4000000
namespace PyD
open PySem PySem.Spec PyProof.Rows L2
theorem EnvRep.unset {k : Ki} {F : Hp} {O : OL} {env : DEnv} {σ : L2.St} (r : EnvRep k F O env σ) (i : Nat) (x : Option V) : ∃ O', O'.Sublist O ∧ EnvRep k F O' (env.set i none) (σ.set i x) := by
  induction r generalizing i with
  | nil => exact ⟨[], List.Sublist.refl _, .nil⟩
  | @un O1 e1 x1 s1 t ih =>
    cases i with
    | zero => exact ⟨O1, List.Sublist.refl _, .un t⟩
    | succ i => obtain ⟨O', h1, h2⟩ := ih i; exact ⟨O', h1, .un h2⟩
  | @val O1 O2 env1 o1 d1 v1 σ1 h t ih =>
    cases i with
    | zero => exact ⟨O2, List.sublist_append_right _ _, .un t⟩
    | succ i => obtain ⟨O', h1, h2⟩ := ih i; exact ⟨O1 ++ O', (List.Sublist.refl _).append h1, .val h h2⟩
theorem EnvRep.wiped {k : Ki} {F : Hp} {O : OL} {env : DEnv} {σ : L2.St} (r : EnvRep k F O env σ) : ∀ l : List Nat, ∃ O', O'.Sublist O ∧ EnvRep k F O' (wipeD env l) (wipe σ l)
  | [] => ⟨O, List.Sublist.refl _, r⟩
  | i :: l => by
    obtain ⟨O1, h1, h2⟩ := r.wiped l
    obtain ⟨O2, h3, h4⟩ := h2.unset i none
    exact ⟨O2, h3.trans h1, h4⟩
theorem wipeD_length (env : DEnv) : ∀ l : List Nat, (wipeD env l).length = env.length
  | [] => rfl
  | i :: l => by unfold wipeD; rw [List.length_set, wipeD_length env l]
/-- what stands alone is written -/
theorem Ext.wr {F H F' H' : Hp} {p : Addr} {o o' : HO} {O : OL} (e : Ext F H F' H' ((p, o) :: O)) : Ext F H F' (upd H' p o') ((p, o') :: O) := by
  obtain ⟨n1, n2, n3⟩ := e.own (p, o) List.mem_cons_self
  have nd := e.nd
  rw [List.map_cons, List.nodup_cons] at nd
  refine ⟨e.sF, fun a u h => ?_, e.ag, fun a u h => ?_, fun q hq => ?_, by rw [List.map_cons, List.nodup_cons]; exact nd⟩
  · rw [upd_ne (ne_of_none h n1)]; exact e.sH _ _ h
  · rw [upd_ne (ne_of_none h n3)]; exact e.fh _ _ h
  · rcases List.mem_cons.mp hq with z | z
    · subst z; exact ⟨n1, upd_same, n3⟩
    · obtain ⟨m1, m2, m3⟩ := e.own q (List.mem_cons_of_mem _ z)
      refine ⟨m1, ?_, m3⟩
      rw [upd_ne]
      · exact m2
      · intro w
        exact nd.1 (w ▸ List.mem_map.mpr ⟨q, z, rfl⟩)
theorem owEq_ok : ∀ {a b : Ow}, owEq a b = true → a = b := by
  have go : ∀ n : Nat, (∀ a b : Ow, sizeOf a ≤ n → owEq a b = true → a = b) ∧ (∀ a b : List Ow, sizeOf a ≤ n → owEqs a b = true → a = b) := by
    intro n
    induction n with
    | zero => exact ⟨fun a b h => by cases a <;> simp at h, fun a b h => by cases a <;> simp at h⟩
    | succ n ih =>
      refine ⟨fun a b h e => ?_, fun a b h e => ?_⟩
      · cases a with
        | sh => cases b <;> first | rfl | cases e
        | lst a =>
          cases b with
          | lst b => rw [ih.1 a b (by simp at h; omega) (by unfold owEq at e; exact e)]
          | _ => cases e
        | tup a =>
          cases b with
          | tup b => rw [ih.2 a b (by simp at h; omega) (by unfold owEq at e; exact e)]
          | _ => cases e
        | ino => cases b <;> cases e
      · cases a with
        | nil => cases b <;> first | rfl | cases e
        | cons a r =>
          cases b with
          | nil => cases e
          | cons b q =>
            unfold owEqs at e
            rw [Bool.and_eq_true] at e
            rw [ih.1 a b (by simp at h; omega) e.1, ih.2 r q (by simp at h; omega) e.2]
  exact fun {a b} h => (go (sizeOf a)).1 a b (Nat.le_refl _) h
theorem wipe_at : ∀ (l : List Nat) (σ : L2.St) (j : Nat), (wipe σ l)[j]? = if j ∈ l then (σ[j]?).map fun _ => none else σ[j]? := fun l => by
  induction l with
  | nil => intro σ j; simp [wipe]
  | cons v r ih =>
    intro σ j
    unfold wipe
    rw [List.getElem?_set]
    by_cases e : v = j
    · subst e
      simp only [if_true, wipe_length]
      by_cases hl : v < σ.length
      · simp [hl]
      · simp [hl]
    · rw [if_neg e, ih]
      have : j ≠ v := fun z => e z.symm
      simp [this]
theorem wipe_put {σ : L2.St} {l : List Nat} {i : Nat} {x : Option V} (h : i ∈ l) : wipe (σ.set i x) l = wipe σ l := by
  refine List.ext_getElem? fun j => ?_
  rw [wipe_at, wipe_at]
  by_cases hj : j ∈ l
  · simp only [hj, if_true]
    rw [List.getElem?_set]
    split
    · rename_i e; subst e
      by_cases hl : i < σ.length
      · simp [hl]
      · simp [hl]
    · rfl
  · simp only [hj, if_false]
    have : i ≠ j := fun z => hj (z ▸ h)
    rw [List.getElem?_set, if_neg this]
theorem wipe_wipe {σ : L2.St} {l : List Nat} : wipe (wipe σ l) l = wipe σ l := by
  refine List.ext_getElem? fun j => ?_
  rw [wipe_at, wipe_at]
  by_cases hj : j ∈ l
  · simp only [hj, if_true]
    cases σ[j]? <;> rfl
  · simp only [hj, if_false]
/-! ### targets -/
/-- where the slots stand behind a target that takes a shared item -/
def TgPost (k : Ki) (F : Hp) (O : OL) (en : DEnv) (is : List Nat) (σ σ' : L2.St) : Prop := ∃ O', O'.Sublist O ∧ EnvRep k F O' en σ' ∧ ∀ l, (∀ i ∈ is, i ∈ l) → wipe σ' l = wipe σ l
def TgOk (k : Ki) (st : Tg) (is : List Nat) (g : TG) : Prop := ∀ (F H : Hp) (O : OL) (env en : DEnv) (σ : L2.St) (d : D) (v : V) (Q : L2.St → Hp → Prop), EnvRep k F O env σ → Same F H → Rep k F d v → st d env = .ok en → (∀ σ', TgPost k F O en is σ σ' → Q σ' H) → g v σ H Q
theorem set1_ok {i : Nat} {d : D} {env en : DEnv} (h : set1 i d env = .ok en) : i < env.length ∧ en = setSlot i (.sh, d) env := by
  unfold set1 at h
  split at h
  · rename_i c; cases h; exact ⟨by simpa using c, rfl⟩
  · cases h
theorem set1_post {k : Ki} {F : Hp} {O : OL} {env en : DEnv} {σ : L2.St} {i : Nat} {d : D} {v : V} (r : EnvRep k F O env σ) (rv : Rep k F d v) (h : set1 i d env = .ok en) : TgPost k F O en [i] σ (σ.set i (some v)) := by
  obtain ⟨hi, rfl⟩ := set1_ok h
  obtain ⟨A, C, _, sAC, er⟩ := r.put hi (Same.refl _) (.sh rv)
  exact ⟨_, sAC, er, fun l hl => wipe_put (hl i List.mem_cons_self)⟩
theorem tgOk_name {k : Ki} {i : Nat} : TgOk k (set1 i) [i] (gName i) := fun F H O env en σ d v Q r sf rv h q => q _ (set1_post r rv h)
def gsOf : List Nat → TGs
  | [] => gNil
  | i :: r => gCons (gName i) (gsOf r)
theorem puts_ok {k : Ki} {F H : Hp} {Q : L2.St → Hp → Prop} : ∀ {is : List Nat} {ds : List D} {vs : List V} {O : OL} {env en : DEnv} {σ : L2.St}, EnvRep k F O env σ → Reps k F ds vs → putAll is ds env = .ok en → (∀ σ', TgPost k F O en is σ σ' → Q σ' H) → gsOf is vs σ H Q
  | [], _, _, O, env, en, σ, r, .nil, h, q => by
    cases h
    exact ⟨rfl, q σ ⟨O, List.Sublist.refl _, r, fun _ _ => rfl⟩⟩
  | i :: is, _, _, O, env, en, σ, r, .cons (v := v) rv t, h, q => by
    unfold putAll at h
    obtain ⟨e1, h1, h2⟩ := R.bind_eq_ok h
    obtain ⟨O1, s1, er1, w1⟩ := set1_post r rv h1
    refine ⟨v, _, rfl, ?_⟩
    refine puts_ok er1 t h2 fun σ' ⟨O2, s2, er2, w2⟩ => q σ' ⟨O2, s2.trans s1, er2, fun l hl => ?_⟩
    rw [w2 l fun j hj => hl j (List.mem_cons_of_mem _ hj), w1 l fun j hj => by rw [List.mem_singleton.1 hj]; exact hl i List.mem_cons_self]
  | [], _, _, _, _, _, _, _, .cons _ _, h, _ => by cases h
  | _ :: _, _, _, _, _, _, _, _, .nil, h, _ => by cases h
theorem puts_len : ∀ {is : List Nat} {ds : List D} {env en : DEnv}, putAll is ds env = .ok en → ds.length = is.length
  | [], [], _, _, _ => rfl
  | i :: is, d :: ds, _, _, h => by
    unfold putAll at h
    obtain ⟨e1, h1, h2⟩ := R.bind_eq_ok h
    rw [List.length_cons, List.length_cons, puts_len h2]
  | [], _ :: _, _, _, h => by cases h
  | _ :: _, [], _, _, h => by cases h
theorem tgOk_tup {k : Ki} {is : List Nat} {K : PySem.W.Frag} (hK : K = k.K) : TgOk k (setN is) is (gTup K is.length (gsOf is)) := fun F H O env en σ d v Q r sf rv h q => by
  cases rv with
  | @tup a vs ds hr rr =>
    have hs := seqT sf hr
    rw [← hK] at hs
    exact ⟨a, vs, rfl, hs, by rw [rr.length, puts_len h], puts_ok r rr h q⟩
  | _ => cases h
/-- the reading of a target -/
def gOf (K : PySem.W.Frag) : Expr → List Nat → TG
  | .Name _ _, is => gName (is.headD 0)
  | _, is => gTup K is.length (gsOf is)
/-- names, as a list of targets -/
theorem names_ok {X : Cx} {N : List Str} {sc : Scope} (hg : ∀ (x : Str) (px : Pos) (i : Nat), locB sc x = true → ixOf x N = some i → PG X (.Name x px) (gName i)) : ∀ {es : List Expr} {is : List Nat}, tgIx.tgIxs N sc es = some is → PGs X es (gsOf is) ∧ (assignEach es X.env).length = is.length ∧ (assignEach es X.env).findIdx? (·.1) = none
  | [], _, h => by cases h; exact ⟨pgs_nil, rfl, rfl⟩
  | e :: es, is, h => by
    unfold tgIx.tgIxs at h
    split at h
    · rename_i h0; cases h0
    · rename_i x px r h0
      cases h0
      cases q : ixOf x N with
      | none => rw [q] at h; cases h
      | some i =>
        rw [q, Option.bind_some] at h
        split at h
        · rename_i c
          simp only [Bool.and_eq_true] at c
          cases q2 : tgIx.tgIxs N sc es with
          | none => rw [q2] at h; cases h
          | some js =>
            rw [q2] at h
            cases h
            obtain ⟨h1, h2, h3⟩ := names_ok hg q2
            refine ⟨pgs_cons (hg x px i c.1 q) h1, ?_, ?_⟩
            · show (assignEach es X.env).length + 1 = js.length + 1
              rw [h2]
            · show List.findIdx? _ ((false, assign (.Name x px) X.env) :: assignEach es X.env) = none
              rw [List.findIdx?_cons, h3]
              rfl
        · cases h
    · cases h
theorem tg_ok {X : Cx} {k : Ki} {N : List Str} {sc : Scope} (hc : X.calm = true) (hK : X.K = k.K) (hg : ∀ (x : Str) (px : Pos) (i : Nat), locB sc x = true → ixOf x N = some i → PG X (.Name x px) (gName i)) {tg : Expr} {is : List Nat} {st : Tg} (h : tgIx N sc tg = some (is, st)) : PG X tg (gOf X.K tg is) := by
  unfold tgIx at h
  split at h
  · rename_i x px
    cases q : ixOf x N with
    | none => rw [q] at h; cases h
    | some i =>
      rw [q, Option.bind_some] at h
      split at h
      · rename_i c
        simp only [Bool.and_eq_true] at c
        cases h
        exact hg x px i c.1 q
      · cases h
  · rename_i es kt pt
    cases q : tgIx.tgIxs N sc es with
    | none => rw [q] at h; cases h
    | some js =>
      rw [q] at h
      cases h
      obtain ⟨h1, h2, h3⟩ := names_ok hg q
      exact pg_tup hc h1 h2 h3
  · cases h
theorem tgOk_of {k : Ki} {K : PySem.W.Frag} (hK : K = k.K) {N : List Str} {sc : Scope} {tg : Expr} {is : List Nat} {st : Tg} (h : tgIx N sc tg = some (is, st)) : TgOk k st is (gOf K tg is) := by
  unfold tgIx at h
  split at h
  · rename_i x px
    cases q : ixOf x N with
    | none => rw [q] at h; cases h
    | some i =>
      rw [q, Option.bind_some] at h
      split at h
      · cases h; exact tgOk_name
      · cases h
  · rename_i es kt pt
    cases q : tgIx.tgIxs N sc es with
    | none => rw [q] at h; cases h
    | some js => rw [q] at h; cases h; exact tgOk_tup hK
  · cases h
section
variable {X : Cx} {k : Ki} {T : Tb} {E : L2.St → XK}
theorem Reps.snoc {F : Hp} {ds : List D} {vs : List V} {d : D} {v : V} (r : Reps k F ds vs) (h : Rep k F d v) : Reps k F (ds ++ [d]) (vs ++ [v]) := reps_app r (.cons h .nil)
theorem RepOl.snoc {F : Hp} {o : Ow} {O2 : OL} {d : D} {v : V} (h : RepO k F o O2 d v) : ∀ {O : OL} {ds : List D} {vs : List V}, RepOl k F o O ds vs → RepOl k F o (O ++ O2) (ds ++ [d]) (vs ++ [v])
  | _, _, _, .nil => by
    have z : RepOl k F o (O2 ++ []) [d] [v] := .cons h .nil
    rw [List.append_nil] at z
    exact z
  | _, _, _, .cons h1 t => by
    rw [List.append_assoc]
    exact .cons h1 (RepOl.snoc h t)
theorem RepOl.length {F : Hp} {o : Ow} : ∀ {O : OL} {ds : List D} {vs : List V}, RepOl k F o O ds vs → vs.length = ds.length
  | _, _, _, .nil => rfl
  | _, _, _, .cons _ t => by rw [List.length_cons, List.length_cons, t.length]
theorem OutI.fst2 {E : XK} {F H : Hp} {O : OL} {Q : VK} {own : Bool} {x : R (List D)} {f : List D → R Sl} {R' : It → Hp → Prop} (h : Out k F H O Q own E (x.bind f))
    (g : ∀ xs J F' H' Of, x = .ok xs → Ext F H F' H' Of → Wk k J F' xs → Out k F' H' O Q own E (f xs) → R' J H') : OutI k F H R' E x := by
  cases x with
  | ok xs => exact fun J F' H' Of e w => g xs J F' H' Of rfl e w (Out.shift h e)
  | exc x => exact h
  | bad => exact h
theorem compR_cons {st : Tg} {t : DEnv → R Bool} {e : Ev} {env : DEnv} {x : D} {xs : List D} {ys : List Sl} (h : compR st t e env (x :: xs) = .ok ys) :
    ∃ en, st x env = .ok en ∧ ((t en = .ok false ∧ compR st t e env xs = .ok ys) ∨ ∃ y zs, t en = .ok true ∧ e en = .ok y ∧ compR st t e env xs = .ok zs ∧ ys = y :: zs) := by
  unfold compR at h
  obtain ⟨en, h0, h⟩ := R.bind_eq_ok h
  refine ⟨en, h0, ?_⟩
  obtain ⟨b, h1, h2⟩ := R.bind_eq_ok h
  cases b with
  | false => exact .inl ⟨h1, h2⟩
  | true =>
    rw [if_pos rfl] at h2
    obtain ⟨y, h3, h4⟩ := R.bind_eq_ok h2
    obtain ⟨zs, h5, h6⟩ := R.bind_eq_ok h4
    cases h6
    exact .inr ⟨y, zs, h1, h3, h5, rfl⟩
theorem oneOw_ok : ∀ {ys : List Sl} {o : Ow}, oneOw ys = some o → ∀ y ∈ ys, y.1 = o
  | [], _, _, _, h => nomatch h
  | [s], o, h, y, hy => by cases h; rw [List.mem_singleton.1 hy]
  | s :: s2 :: r, o, h, y, hy => by
    have h : ((oneOw (s2 :: r)).bind fun o => if owEq s.1 o then some o else none) = some o := h
    cases q : oneOw (s2 :: r) with
    | none => rw [q] at h; cases h
    | some o' =>
      rw [q, Option.bind_some] at h
      split at h
      · rename_i c
        cases h
        rcases List.mem_cons.1 hy with e | e
        · rw [e]; exact owEq_ok c
        · exact oneOw_ok q y e
      · cases h
theorem noExc_ok {α : Type} {x : R α} {a : α} (h : noExc x = .ok a) : x = .ok a := by
  cases x with
  | ok b => exact h
  | exc e => cases h
  | bad => cases h
theorem comp_blk {scope : Scope} (O : XOk k T E X) (hb : blkC T.N T.sc scope (ownOf T.N scope) = true) : BlkOk X.N X.env.scope scope (ownOf T.N scope) := by
  have b := blkOk_by hb
  exact ⟨b.kind, b.uniq, by rw [O.hN]; exact b.ix, fun y hy ey => O.fr y.1 (b.free y hy ey), by rw [O.hN]; exact b.own⟩
theorem comp_nm {x : Str} {px : Pos} {scope : Scope} {i : Nat} (O : XOk k T E X) (hix : ixOf x T.N = some i) (hl : locB scope x = true) (s : Shared) (H : Hp) (C : Addr) (cl : List (Str × Addr)) (fp : List Addr) : PG (X.blk s H scope (compEnvC scope cl C X.env) fp) (.Name x px) (gName i) := by
  have O' := O.blk s H scope cl C fp
  refine pg_name (show X.N.Nodup by rw [O.hN]; exact O.nd) (show X.N[i]? = some x by rw [O.hN]; exact ixOf_at hix) (O'.loc x hl) ?_
  unfold locB at hl
  split at hl
  · rename_i z
    right
    show (relabel scope X.env).names.lookup x = some .local
    rw [relab, z]; rfl
  · rename_i z
    left
    show (scope.names.lookup x == some .cell) = true
    rw [z]; rfl
  · cases hl
theorem comp_tg {tg : Expr} {scope : Scope} {is : List Nat} {st : Tg} (O : XOk k T E X) (h : tgIx T.N scope tg = some (is, st)) (s : Shared) (H : Hp) (C : Addr) (cl : List (Str × Addr)) (fp : List Addr) : PG (X.blk s H scope (compEnvC scope cl C X.env) fp) tg (gOf X.K tg is) :=
  tg_ok (X := X.blk s H scope (compEnvC scope cl C X.env) fp) (O.blk s H scope cl C fp).calm O.hK (fun x px i hl hix => comp_nm O hix hl s H C cl fp) h
theorem comp_imp {scope : Scope} {src : Src} {tg : Expr} {is : List Nat} {st : Tg} {t : DEnv → R Bool} {e : Ev} {σ : L2.St} {H : Hp} {Q : VK} (O : XOk k T E X) (ht : tgIx T.N scope tg = some (is, st)) (hm : ∀ i ∈ is, i ∈ (ownOf T.N scope).map (·.2))
    (h : tD k E true (compG src st t e ((ownOf T.N scope).map (·.2))) σ H Q) : tLc (tI k E src.run) (gOf X.K tg is) (tDT k (fun _ => E0) t) (tD k (fun _ => E0) true e) ((ownOf T.N scope).map (·.2)) σ H Q := by
  have TG := tgOk_of (k := k) O.hK ht
  obtain ⟨F, OO, env, B, q⟩ := h
  refine ⟨F, OO, env, B, OutI.fst2 (x := src.run env) q fun xs J F1 H1 Of _ x1 w q => ?_⟩
  intro D hD
  have B1 := B.ext x1
  by_cases hz2 : decide (xs.length ≤ sizeLine) = true
  · rw [if_pos hz2] at q
    have hz := of_decide_eq_true hz2
    cases z : noExc (compR st t e (wipeD env ((ownOf T.N scope).map (·.2))) xs) with
    | exc y => exfalso; unfold noExc at z; split at z <;> first | cases z | (rename_i hne; exact hne y z)
    | bad => rw [z] at q; exact q.elim
    | ok ys =>
      rw [z, R.bind_ok] at q
      have hc := noExc_ok z
      cases ho : oneOw ys with
      | none => rw [ho] at q; exact q.elim
      | some o =>
      rw [ho, R.need_some, R.bind_ok] at q
      have one := oneOw_ok ho
      refine ⟨fun n m Hc => m = xs.length - n ∧ n ≤ xs.length ∧ ∃ Fc acc done rest OA, Ext F1 H1 Fc Hc ((D, .lst acc) :: OA) ∧ RepOl k Fc o OA done acc ∧ compR st t e (wipeD env ((ownOf T.N scope).map (·.2))) (xs.drop n) = .ok rest ∧ ys.map (·.2) = done ++ rest.map (·.2) ∧ (∀ y ∈ rest, y.1 = o) ∧ acc.length ≤ n,
        ⟨_, rfl, Nat.zero_le _, F1, [], [], ys, [], Ext.newO x1.fh hD, .nil, hc, rfl, one, Nat.le_refl _⟩, ?_⟩
      rintro n m Hc ⟨rfl, hn, Fc, acc, done, rest, OA, ex, rp, hr, ey, hone, hl⟩
      by_cases hlt : n < xs.length
      · right
        have hat : xs[n]? = some xs[n] := List.getElem?_eq_getElem hlt
        obtain ⟨go, yl⟩ := w.item Fc Hc n _ ex.sF ex.fh hat
        refine ⟨go, fun H' => n + 1 ≤ xs.length ∧ ∃ Fc acc done rest OA, Ext F1 H1 Fc H' ((D, .lst acc) :: OA) ∧ RepOl k Fc o OA done acc ∧ compR st t e (wipeD env ((ownOf T.N scope).map (·.2))) (xs.drop (n + 1)) = .ok rest ∧ ys.map (·.2) = done ++ rest.map (·.2) ∧ (∀ y ∈ rest, y.1 = o) ∧ acc.length ≤ n + 1,
          fun H' ⟨a, b⟩ => ⟨xs.length - (n + 1), by omega, rfl, a, b⟩, fun v H' hy => ?_⟩
        obtain ⟨rfl, rv⟩ := yl v H' hy
        rw [List.drop_eq_getElem_cons hlt] at hr
        -- the block's slots
        obtain ⟨O2, sub2, er2⟩ := (B1.er.mono ex.sF).wiped ((ownOf T.N scope).map (·.2))
        obtain ⟨en, hst, hr⟩ := compR_cons hr
        refine TG Fc H' O2 _ en _ _ v _ er2 ex.fh rv hst fun σ3 ⟨O3, sub3, er3, w3⟩ => ⟨(w3 _ hm).trans wipe_wipe, ?_⟩
        have ow3 : ∀ p ∈ O3, H' p.1 = some p.2 ∧ Fc p.1 = none := fun p hp => by
          have h1 := B1.ow p (sub2.subset (sub3.subset hp))
          exact ⟨ex.sH _ _ h1.1, (ex.ag _ (by rw [h1.1]; exact fun z => nomatch z)).trans h1.2⟩
        have B3 : Bs k Fc O3 en σ3 H' := ⟨er3, ex.fh, ow3⟩
        rcases hr with ⟨h1, h2⟩ | ⟨y, zs, h1, h2, h3, h4⟩
        · refine ⟨Fc, _, _, B3, ?_⟩
          rw [h1]
          refine fun F4 H4 x4 => ?_
          show n + 1 ≤ xs.length ∧ _
          exact ⟨hlt, F4, acc, done, rest, OA, ex.trans x4, rp.mono x4.sF, h2, ey, hone, by omega⟩
        · refine ⟨Fc, _, _, B3, ?_⟩
          rw [h1]
          refine fun F4 H4 x4 => ?_
          show tD k (fun _ => E0) true e _ H4 _
          refine ⟨F4, _, _, B3.ext x4, ?_⟩
          rw [h2]
          intro v5 F5 H5 O5 Ob x5 r5 c5
          cases (show Ob = O5 from c5)
          have ex5 : Ext F1 H1 F5 H5 (O5 ++ ((D, .lst acc) :: OA)) := by
            have z := (ex.trans x4).trans x5
            exact z
          have ex6 : Ext F1 H1 F5 H5 ((D, .lst acc) :: (OA ++ O5)) := by
            refine ex5.sub (fun p hp => ?_) ?_
            · rcases List.mem_cons.1 hp with z | z
              · exact List.mem_append_right _ (z ▸ List.mem_cons_self)
              · rcases List.mem_append.1 z with z | z
                · exact List.mem_append_right _ (List.mem_cons_of_mem _ z)
                · exact List.mem_append_left _ z
            · refine (List.Perm.nodup_iff (List.Perm.map _ ?_)).mp ex5.nd
              exact List.perm_append_comm
          have oy : y.1 = o := hone y (by rw [h4]; exact List.mem_cons_self)
          refine ⟨acc, (ex5.own _ (List.mem_append_right _ List.mem_cons_self)).2.1, by omega, hlt, F5, acc ++ [v5], done ++ [y.2], zs, OA ++ O5, ex6.wr, ?_, h3, ?_, fun u hu => hone u (by rw [h4]; exact List.mem_cons_of_mem _ hu), ?_⟩
          · rw [oy] at r5
            exact RepOl.snoc r5 ((rp.mono x4.sF).mono x5.sF)
          · rw [ey, h4, List.append_assoc]; rfl
          · rw [List.length_append, List.length_singleton]; omega
      · left
        have e : n = xs.length := by omega
        subst e
        refine ⟨w.stop Fc Hc ex.sF ex.fh, ?_⟩
        rw [List.drop_length] at hr
        cases hr
        rw [List.map_nil, List.append_nil] at ey
        rw [ey] at q
        exact Out.new q ex (.lst rp)
  · rw [if_neg hz2] at q; exact q.elim
theorem pe_compE {elt iter : Expr} {ifs : List Expr} {tg : Expr} {pos : Pos} {scope : Scope} {src : Src} {is : List Nat} {st : Tg} {t : DEnv → R Bool} {e : Ev} (O : XOk k T E X) (hi : PI X tg iter (tI k E src.run)) (htg : tgIx T.N scope tg = some (is, st)) (hb : blkC T.N T.sc scope (ownOf T.N scope) = true)
    (hm : ∀ i ∈ is, i ∈ (ownOf T.N scope).map (·.2)) (ht : ∀ (s : Shared) (H : Hp) (C : Addr) (cl : List (Str × Addr)) (fp : List Addr), PTs (X.blk s H scope (compEnvC scope cl C X.env) fp) ifs (tDT k (fun _ => E0) t))
    (he : ∀ (s : Shared) (H : Hp) (C : Addr) (cl : List (Str × Addr)) (fp : List Addr), PE (X.blk s H scope (compEnvC scope cl C X.env) fp) elt (tD k (fun _ => E0) true e)) (hs : ∀ v, foldedSetIterable iter X.env v = pure v) :
    PE X (.ListComp elt [⟨tg, iter, ifs, 0⟩] scope pos) (tD k E true (compG src st t e ((ownOf T.N scope).map (·.2)))) :=
  peI (pe_lc O.calm (by rw [O.hN]; exact O.nd) hi (comp_blk O hb) (comp_tg O htg) ht he hs) fun σ H Q h => comp_imp O htg hm h
end
end PyD
end
section
set_option Elab.async false
set_option linter.all false
set_option maxRecDepth 100000
set_option maxHeartbeats 4000000
namespace PyD
open PySem PySem.Spec PyProof.Rows L2
structure SOk (s : Sm) : Prop where
  B : ∀ {X : Cx} {k : Ki} {T : Tb} {E : L2.St → XK}, XOk k T E X → ∀ e, PE X e (tD k E false (s.B T e))
  E : ∀ {X : Cx} {k : Ki} {T : Tb} {E : L2.St → XK}, XOk k T E X → ∀ e, PE X e (tD k E true (s.E T e))
  O : ∀ {X : Cx} {k : Ki} {T : Tb} {E : L2.St → XK}, XOk k T E X → ∀ e, PE X e (tD k E true (s.O T e))
  T : ∀ {X : Cx} {k : Ki} {T : Tb} {E : L2.St → XK}, XOk k T E X → ∀ e, PT X e (tDT k E (s.T T e))
section
variable {X : Cx} {k : Ki} {T : Tb} {E : L2.St → XK} {s : Sm}
theorem folded_ok {iter : Expr} {env : Env} (h : isSet iter = false) : ∀ v, foldedSetIterable iter env v = pure v := by
  intro v
  cases iter <;> first | rfl | cases h
theorem isiArgs_of {es : List Expr} {e : Expr} {t : Str} (h : isiArgs es = some (e, t)) : ∃ p, es = [e, .Name t p] := by
  unfold isiArgs at h
  split at h
  · cases h; exact ⟨_, rfl⟩
  · cases h
theorem fn_ok (S : SOk s) (O : XOk k T E X) {f : Str} {g : Sg} {es : List Expr} {kws : List Keyword} {p pos : Pos} (hg : glB T.sc f = true) (hf : okName f = true) (hsg : T.sg f = some g) : PE X (.Call (.Name f p) es kws pos) (tD k E true (fnE T s f g es kws)) := by
  unfold fnE
  split
  · exact peBad
  · rename_i h1
    simp only [Bool.or_eq_true, not_or, Bool.not_eq_true, Bool.not_eq_false', Bool.not_eq_eq_eq_not, Bool.not_true, decide_eq_false_iff_not, Decidable.not_not] at h1
    refine pe_fnE O hg hf hsg (fun e => ?_) h1.1.2 h1.1.1 (by simpa using h1.2)
    split
    · exact pe_weak (pe_frz (S.E O e))
    · exact S.B O e
theorem new_ok (S : SOk s) (O : XOk k T E X) {f : Str} {g : Sg} {es : List Expr} {p pos : Pos} (hg : glB T.sc f = true) (hf : okName f = true) (hsg : T.sg f = none) (hnw : T.nw f = some g) : PE X (.Call (.Name f p) es [] pos) (tD k E true (fnE T s f g es [])) := by
  unfold fnE
  split
  · exact peBad
  · rename_i h1
    simp only [Bool.or_eq_true, not_or, Bool.not_eq_true, Bool.not_eq_false', Bool.not_eq_eq_eq_not, Bool.not_true, decide_eq_false_iff_not, Decidable.not_not] at h1
    rw [show es ++ kwVals [] = es from List.append_nil _]
    refine pe_newE O hg hf hsg hnw (fun e => ?_) h1.1.2 h1.1.1
    split
    · exact pe_weak (pe_frz (S.E O e))
    · exact S.B O e
theorem rangeArg_of {f : Str} {a n : Expr} (h : rangeArg f a = some n) : (f = "list" ∨ f = "tuple") ∧ ∃ p pos, a = .Call (.Name "range" p) [n] [] pos := by
  unfold rangeArg at h
  split at h
  · rename_i c; exact ⟨by simpa using c, isRange_of h⟩
  · cases h
/-! a list of what is its own -/
inductive RepS (k : Ki) (F : Hp) : OL → List Sl → List V → Prop where
  | nil : RepS k F [] [] []
  | cons {O O' : OL} {s : Sl} {v : V} {ss : List Sl} {vs : List V} (h : RepO k F s.1 O s.2 v) (t : RepS k F O' ss vs) : RepS k F (O ++ O') (s :: ss) (v :: vs)
theorem RepS.length {F : Hp} : ∀ {O : OL} {ss : List Sl} {vs : List V}, RepS k F O ss vs → vs.length = ss.length
  | _, _, _, .nil => rfl
  | _, _, _, .cons _ t => by rw [List.length_cons, List.length_cons, t.length]
theorem RepS.one {F : Hp} {o : Ow} : ∀ {O : OL} {ss : List Sl} {vs : List V}, RepS k F O ss vs → (∀ s ∈ ss, s.1 = o) → RepOl k F o O (ss.map (·.2)) vs
  | _, _, _, .nil, _ => .nil
  | _, _, _, .cons (s := s) h t, e => by
    have e1 := e s List.mem_cons_self
    rw [e1] at h
    exact .cons h (t.one fun u hu => e u (List.mem_cons_of_mem _ hu))
def OutAO (k : Ki) (F H : Hp) (Q : List V → Hp → Prop) (E : XK) : R (List Sl) → Prop
  | .ok ss => ∀ vs F' H' Of, Ext F H F' H' Of → RepS k F' Of ss vs → Q vs H'
  | .exc x => ∀ F' H' cls dd, Ext F H F' H' [] → RepX k F' x cls dd → E cls dd H'
  | .bad => False
def tAO (k : Ki) (E : L2.St → XK) (sem : DEnv → R (List Sl)) : TA := fun σ H Q => ∃ F O env, Bs k F O env σ H ∧ OutAO k F H Q (E σ) (sem env)
theorem RepS.mono {F F' : Hp} (e : Same F F') : ∀ {O : OL} {ss : List Sl} {vs : List V}, RepS k F O ss vs → RepS k F' O ss vs
  | _, _, _, .nil => .nil
  | _, _, _, .cons h t => .cons (h.mono e) (t.mono e)
theorem Ext.comm {F H F' H' : Hp} {A B : OL} (e : Ext F H F' H' (A ++ B)) : Ext F H F' H' (B ++ A) := by
  refine e.sub (fun p hp => ?_) ?_
  · rcases List.mem_append.1 hp with z | z
    · exact List.mem_append_right _ z
    · exact List.mem_append_left _ z
  · refine (List.Perm.nodup_iff (List.Perm.map _ ?_)).mp e.nd
    exact List.perm_append_comm
theorem pa_LO {f : Expr → Ev} (h : ∀ e, PE X e (tD k E true (f e))) : ∀ es : List Expr, es.any star = false → PA X es (tAO k E (listE f es))
  | [], _ => paI pa_nil fun σ H Q ⟨F, O, env, B, q⟩ => q [] F H [] (Ext.refl B.sf) .nil
  | e :: es, hs => by
    rw [List.any_cons, Bool.or_eq_false_iff] at hs
    refine paI (pa_cons (h e) (pa_LO h es hs.2) (star_cons hs.1)) fun σ H Q ⟨F, O, env, B, q⟩ => ⟨F, O, env, B, ?_⟩
    unfold listE at q
    cases z : f e env with
    | exc x => rw [z] at q; exact q
    | bad => rw [z] at q; exact q
    | ok s =>
      rw [z, R.bind_ok] at q
      intro v F1 H1 Of Ob x r c
      cases (show Ob = Of from c)
      refine ⟨F1, O, env, B.ext x, ?_⟩
      cases z2 : listE f es env with
      | exc e' => rw [z2] at q; exact fun F' H' cls dd e r => q F' H' cls dd (x.drop e) r
      | bad => rw [z2] at q; exact q
      | ok ss =>
        rw [z2, R.bind_ok] at q
        exact fun vs F' H' Of' x' r' => q (v :: vs) F' H' (Of ++ Of') (x.trans x').comm (.cons (r.mono x'.sF) r')
theorem pe_lstO {f : Expr → Ev} (h : ∀ e, PE X e (tD k E true (f e))) {es : List Expr} {pos : Pos} (hs : es.any star = false) : PE X (.List es pos) (tD k E true (lstO f es)) := by
  refine peI (pe_lst (pa_LO h es hs)) fun σ H Q ⟨F, O, env, B, q⟩ => ⟨F, O, env, B, ?_⟩
  have q : Out k F H O Q true (E σ) ((listE f es env).bind fun xs => (R.need (oneOw xs)).bind fun o => if decide (xs.length ≤ sizeLine) then .ok (.lst o, .lst (xs.map (·.2))) else .bad) := q
  cases z : listE f es env with
  | exc x => rw [z] at q; exact q
  | bad => rw [z] at q; exact q
  | ok ss =>
    rw [z, R.bind_ok] at q
    cases ho : oneOw ss with
    | none => rw [ho] at q; exact q.elim
    | some o =>
      rw [ho, R.need_some, R.bind_ok] at q
      split at q
      · rename_i c
        simp only [decide_eq_true_eq] at c
        intro vs F' H' Of e r
        refine ⟨by rw [r.length]; exact c, fun p np => ?_⟩
        have e2 : Ext F H F' (upd H' p (.lst vs)) ((p, .lst vs) :: Of) := by
          have z := e.trans (Ext.newO (o := .lst vs) e.fh np)
          exact z
        exact q (.ref p) F' _ _ _ e2 (.lst (r.one (oneOw_ok ho))) rfl
      · exact q.elim
theorem calls_ok (S : SOk s) (O : XOk k T E X) {f : Str} {es : List Expr} {p pos : Pos} : PE X (.Call (.Name f p) es [] pos) (tD k E true (callsE T s f es)) := by
  unfold callsE
  split
  · exact peBad
  · rename_i h0
    simp only [Bool.not_eq_true', Bool.and_eq_false_iff, not_or, Bool.not_eq_false] at h0
    split
    · rename_i g hg
      exact fn_ok S O h0.1 h0.2 hg
    · rename_i hsg
      split
      · rename_i g hnw
        exact new_ok S O h0.1 h0.2 hsg hnw
      · split
        · rename_i hf
          subst hf
          split
          · rename_i e t hi
            obtain ⟨p2, rfl⟩ := isiArgs_of hi
            split
            · rename_i c
              simp only [Bool.and_eq_true, Bool.not_eq_true'] at c
              exact pe_isiE O h0.1 c.1.1.1 c.1.1.2 c.1.2 c.2 (S.B O e)
            · exact peBad
          · exact peBad
        · split
          · rename_i a
            split
            · rename_i n hr
              obtain ⟨hf, p2, pos2, rfl⟩ := rangeArg_of hr
              split
              · rename_i c
                simp only [Bool.and_eq_true, Bool.not_eq_true'] at c
                exact pe_rgE O hf h0.1 c.1 c.2 (S.B O n)
              · exact peBad
            · split
              · rename_i b hb
                split
                · exact peBad
                · rename_i hs
                  exact pe_blE O hb h0.1 (by simpa using hs) (S.B O a)
              · exact peBad
          · rename_i a b
            split
            · rename_i c
              simp only [Bool.and_eq_true, Bool.or_eq_true, Bool.not_eq_true', decide_eq_true_eq] at c
              exact pe_mm2E O c.1.1 h0.1 c.1.2 c.2 (S.B O a) (S.B O b)
            · exact peBad
          · exact peBad
theorem pts_of {ifs : List Expr} {t : DEnv → R Bool} {T' : Tb} {X' : Cx} {E' : L2.St → XK} (S : SOk s) (O : XOk k T' E' X') (h : testsE (s.T T') ifs = some t) : PTs X' ifs (tDT k E' t) := by
  unfold testsE at h
  split at h
  · cases h
    exact ⟨fun pins s σ H Q I ⟨F, OO, env, B, q⟩ => pts_nil.run pins s σ H Q I (q F H (Ext.refl B.sf))⟩
  · cases h
    exact pts_one (S.T O _)
  · cases h
theorem comp_ok (S : SOk s) (O : XOk k T E X) {elt tg iter : Expr} {ifs : List Expr} {scope : Scope} {pos : Pos} {f : Tb → Expr → Ev} (hf : ∀ {X : Cx} {T : Tb} {E : L2.St → XK}, XOk k T E X → ∀ e, PE X e (tD k E true (f T e))) : PE X (.ListComp elt [⟨tg, iter, ifs, 0⟩] scope pos) (tD k E true (match tgIx T.N scope tg, testsE (s.T { T with sc := scope }) ifs with
    | some (is, st), some t => if blkC T.N T.sc scope (ownOf T.N scope) && is.all (fun i => decide (i ∈ (ownOf T.N scope).map (·.2))) && !isSet iter then compG (srcOf T s iter) st t (f { T with sc := scope } elt) ((ownOf T.N scope).map (·.2)) else badE
    | _, _ => badE)) := by
  split
  · rename_i is st t hix ht
    split
    · rename_i c
      simp only [Bool.and_eq_true, Bool.not_eq_true', List.all_eq_true, decide_eq_true_eq] at c
      exact pe_compE O (pi_src O (S.B O) (S.E O)) hix c.1.1 c.1.2 (fun s H C cl fp => pts_of S (O.blk s H _ cl C fp) ht) (fun s H C cl fp => hf (O.blk s H _ cl C fp) _) (folded_ok c.2)
    · exact peBad
  · exact peBad
theorem stepE_ok (S : SOk s) (O : XOk k T E X) (e : Expr) : PE X e (tD k E true (stepE s T e)) := by
  unfold stepE
  split
  · split
    · rename_i d h; exact pe_lit h
    · exact peBad
  · exact pe_nameE O
  · exact pe_binE O (S.B O _) (S.B O _)
  · exact pe_notE (S.B O _)
  · exact pe_negE (S.B O _)
  · exact pe_boolE (S.E O) _
  · exact pe_ifE (S.T O _) (S.E O _) (S.E O _)
  · split
    · exact peBad
    · rename_i h; exact pe_cmpE O (S.B O _) (S.B O _) (by simpa using h)
  · split
    · exact peBad
    · rename_i h; exact pe_chainE O (S.B O _) (S.B O _) (S.B O _) (by simpa using h)
  · exact pe_sliE O (S.B O)
  · split
    · rename_i h; exact pe_subSh O (S.B O _) (S.E O _) h
    · exact peBad
  · split
    · rename_i h; exact pe_fldE O (S.B O _) h
    · exact peBad
  · split
    · exact peBad
    · rename_i h; exact pe_lstE (fun e => pe_frz (S.E O e)) (by simpa using h)
  · split
    · exact peBad
    · rename_i h; exact pe_tupE (fun e => pe_frz (S.E O e)) (by simpa using h)
  · exact calls_ok S O
  · split
    · exact peBad
    · rename_i h0
      simp only [Bool.not_eq_true', Bool.and_eq_false_iff, not_or, Bool.not_eq_false] at h0
      split
      · rename_i g hg; exact fn_ok S O h0.1 h0.2 hg
      · exact peBad
  · split
    · rename_i h
      subst h
      split
      · rename_i c
        simp only [Bool.and_eq_true, Bool.not_eq_true'] at c
        exact pe_idxE O (S.B O _) (S.B O _) c.1.2 c.2 c.1.1
      · exact peBad
    · exact peBad
  · exact comp_ok S O (f := fun T e => frzE (s.E T e)) fun O e => pe_frz (S.E O e)
  · exact peBad
theorem stepO_ok (S : SOk s) (O : XOk k T E X) (e : Expr) : PE X e (tD k E true (stepO s T e)) := by
  unfold stepO
  split
  · split
    · exact peBad
    · rename_i h; exact pe_lstO (S.O O) (by simpa using h)
  · exact comp_ok S O (f := s.O) S.O
  · exact peBad
  · exact S.E O _
theorem stepB_ok (S : SOk s) (O : XOk k T E X) (e : Expr) : PE X e (tD k E false (stepB s T e)) := by
  unfold stepB
  split
  · split
    · rename_i i h; exact pe_varB O h
    · exact pe_weak (S.E O _)
  · split
    · rename_i h; exact pe_subE O (S.B O _) (S.E O _) h
    · exact pe_weak (S.E O _)
  · exact pe_weak (S.E O _)
theorem stepT_ok (S : SOk s) (O : XOk k T E X) (e : Expr) : PT X e (tDT k E (stepT s T e)) := by
  unfold stepT
  split
  · exact pt_notT (S.T O _)
  · exact (pw_boolT (S.T O) _).pt
  · split
    · exact ptBad
    · rename_i h; exact pt_cmpE O (S.B O _) (S.B O _) (by simpa using h)
  · split
    · exact ptBad
    · rename_i h; exact pt_chainE O (S.B O _) (S.B O _) (S.B O _) (by simpa using h)
  · split
    · rename_i h; exact pt_truE O (S.B O _) h
    · exact ptBad
end
theorem sm_ok : ∀ n, SOk (sm n)
  | 0 => ⟨fun _ _ => ⟨fun _ _ _ _ _ _ ⟨_, _, _, _, h⟩ => h.elim⟩, fun _ _ => peBad, fun _ _ => peBad, fun _ _ => ptBad⟩
  | n + 1 => ⟨fun O e => stepB_ok (sm_ok n) O e, fun O e => stepE_ok (sm_ok n) O e, fun O e => stepO_ok (sm_ok n) O e, fun O e => stepT_ok (sm_ok n) O e⟩
end PyD
end
section
set_option Elab.async false
set_option linter.all false
set_option maxRecDepth 100000
set_option maxHeartbeats 4000000
namespace PyD
open PySem PySem.Spec PyProof.Rows L2
/-- the context of a def's body -/
structure BOk (k : Ki) (T : Tb) (E : L2.St → XK) (X : Cx) : Prop where
  x : XOk k T E X
  sc : X.env.scope = T.sc
  kind : X.env.scope.kind = .function
  fn : ∀ x, X.fn x = true
  po : PassesOwn (model X.prog X.w) X.A X.env X.xe
  tk : Takes X (fun cls dd σ H => E σ cls dd H)
def OutS (k : Ki) (F0 H0 : Hp) (D : Ends) (E : L2.St → XK) : R Fl → Prop
  | .ok (.nx env) => ∀ σ' F' H' O', EnvRep k F' O' env σ' → Ext F0 H0 F' H' O' → D.nx σ' H'
  | .ok (.bk env) => ∀ σ' F' H' O', EnvRep k F' O' env σ' → Ext F0 H0 F' H' O' → D.bk σ' H'
  | .ok (.ct env) => ∀ σ' F' H' O', EnvRep k F' O' env σ' → Ext F0 H0 F' H' O' → D.ct σ' H'
  | .ok (.rt s) => ∀ v F' H' O', Ext F0 H0 F' H' O' → RepO k F' s.1 O' s.2 v → D.rt v H'
  | .ok (.xc x env) => ∀ σ' F' H' O' cls dd, EnvRep k F' O' env σ' → Ext F0 H0 F' H' O' → RepX k F' x cls dd → E σ' cls dd H'
  | .exc _ => False
  | .bad => False
def tS (k : Ki) (E : L2.St → XK) (sem : Ex) : TS := fun D σ H => ∃ F0 H0 F O env, EnvRep k F O env σ ∧ Ext F0 H0 F H O ∧ OutS k F0 H0 D E (sem env)
theorem Ext.perm {F H F' H' : Hp} {O O' : OL} (e : Ext F H F' H' O) (p : O'.Perm O) : Ext F H F' H' O' := e.sub (fun q hq => p.mem_iff.mp hq) ((List.Perm.nodup_iff (p.map _)).mpr e.nd)
theorem Ext.bs {k : Ki} {F0 H0 F H : Hp} {O : OL} {env : DEnv} {σ : L2.St} (e : Ext F0 H0 F H O) (r : EnvRep k F O env σ) : Bs k F O env σ H := ⟨r, e.fh, fun p hp => ⟨(e.own p hp).2.1, (e.own p hp).2.2⟩⟩
section
variable {X : Cx} {k : Ki} {T : Tb} {E : L2.St → XK} {F0 H0 F H : Hp} {O : OL} {D : Ends}
theorem psBad {st : Stmt} : PS X st (tS k E badS) := ⟨fun _ _ _ _ _ _ ⟨_, _, _, _, _, _, _, h⟩ => h.elim⟩
theorem OutS.fst {x : R Sl} {f : Sl → R Fl} {Q' : VK} {b : Bool} {env : DEnv} {σ : L2.St} (e0 : Ext F0 H0 F H O) (r0 : EnvRep k F O env σ) (h : OutS k F0 H0 D E (cat x env f))
    (g : ∀ s v F' H' Of Ob, x = .ok s → Ext F H F' H' Of → RepO k F' s.1 Ob s.2 v → (if b = true then Ob = Of else ∀ p ∈ Ob, p ∈ Of ∨ p ∈ O) → OutS k F0 H0 D E (f s) → Q' v H') : Out k F H O Q' b (E σ) x := by
  cases x with
  | ok s => exact fun v F' H' Of Ob e r c => g s v F' H' Of Ob rfl e r c h
  | exc x => exact fun F' H' cls dd e r => h σ F' H' O cls dd (r0.mono e.sF) (by simpa using e0.trans e) r
  | bad => exact h
theorem OutS.fstT {x : R Bool} {f : Bool → R Fl} {Q' : Bool → Hp → Prop} {env : DEnv} {σ : L2.St} (e0 : Ext F0 H0 F H O) (r0 : EnvRep k F O env σ) (h : OutS k F0 H0 D E (cat x env f)) (g : ∀ s F' H', x = .ok s → Ext F H F' H' [] → OutS k F0 H0 D E (f s) → Q' s H') : OutT k F H Q' (E σ) x := by
  cases x with
  | ok s => exact fun F' H' e => g s F' H' rfl e h
  | exc x => exact fun F' H' cls dd e r => h σ F' H' O cls dd (r0.mono e.sF) (by simpa using e0.trans e) r
  | bad => exact h
theorem OutS.fstI {f : List PyD.D → R Fl} {R' : It → Hp → Prop} {xx : R (List PyD.D)} {env : DEnv} {σ : L2.St} (e0 : Ext F0 H0 F H O) (r0 : EnvRep k F O env σ) (h : OutS k F0 H0 D E (cat xx env f)) (g : ∀ xs J F' H' Of, xx = .ok xs → Ext F H F' H' Of → Wk k J F' xs → OutS k F0 H0 D E (f xs) → R' J H') : OutI k F H R' (E σ) xx := by
  cases xx with
  | ok s => exact fun J F' H' Of e w => g s J F' H' Of rfl e w h
  | exc x => exact fun F' H' cls dd e r => h σ F' H' O cls dd (r0.mono e.sF) (by simpa using e0.trans e) r
  | bad => exact h
/-! ### sharing -/
theorem dem1_ok {i : Nat} {env : DEnv} {σ : L2.St} (r : EnvRep k F O env σ) (e : Ext F0 H0 F H O) : ∃ F1 O1, EnvRep k F1 O1 (dem1 i env) σ ∧ Ext F0 H0 F1 H O1 := by
  unfold dem1
  split
  · rename_i o d h
    obtain ⟨A, B, C, v, e1, e2, rv, f, _⟩ := r.slot h
    subst e1
    have e' : Ext F0 H0 F H (B ++ (A ++ C)) := by
      refine e.sub (fun p hp => ?_) ?_
      · rcases List.mem_append.mp hp with z | z
        · exact List.mem_append_right _ (List.mem_append_left _ z)
        · rcases List.mem_append.mp z with z | z
          · exact List.mem_append_left _ z
          · exact List.mem_append_right _ (List.mem_append_right _ z)
      · have n := e.nd
        refine (List.Perm.nodup_iff ?_).mp n
        refine List.Perm.map _ ?_
        rw [← List.append_assoc, ← List.append_assoc]
        exact List.Perm.append_right _ List.perm_append_comm
    have nB : (B.map (·.1)).Nodup := by
      have n := e'.nd
      rw [List.map_append, List.nodup_append] at n
      exact n.1
    have sF : Same F (frz F B) := frz_same fun p hp => (e'.own p (List.mem_append_left _ hp)).2.2
    refine ⟨frz F B, A ++ C, ?_, e'.freeze⟩
    have z := f (frz F B) .sh d [] v sF (.sh (rv.frz sF fun p hp => frz_at nB hp))
    have es : σ.set i (some v) = σ := by
      refine List.ext_getElem? fun j => ?_
      rw [List.getElem?_set]
      split
      · rename_i ej; subst ej
        split
        · exact e2.symm
        · rename_i hl; rw [List.getElem?_eq_none (by omega)]
      · rfl
    rw [es] at z
    simpa using z
  · exact ⟨F, O, r, e⟩
theorem dem_ok {env : DEnv} {σ : L2.St} : ∀ (l : List Nat) {F : Hp} {O : OL} {env : DEnv}, EnvRep k F O env σ → Ext F0 H0 F H O → ∃ F1 O1, EnvRep k F1 O1 (dem l env) σ ∧ Ext F0 H0 F1 H O1
  | [], _, _, _, r, e => ⟨_, _, r, e⟩
  | i :: l, _, _, _, r, e => by
    obtain ⟨F1, O1, r1, e1⟩ := dem1_ok (i := i) r e
    exact dem_ok (env := env) l r1 e1
theorem tS_dem {l : List Nat} {x : Ex} {σ : L2.St} {H : Hp} (h : tS k E (demS l x) D σ H) : tS k E x D σ H := by
  obtain ⟨F0, H0, F, O, env, r, e, q⟩ := h
  obtain ⟨F1, O1, r1, e1⟩ := dem_ok (env := env) l r e
  exact ⟨F0, H0, F1, O1, _, r1, e1, q⟩
/-! ### statements -/
theorem ps_nx {st : Stmt} (h : PS X st tNext) : PS X st (tS k E fun env => .ok (.nx env)) := psI h fun D σ H ⟨F0, H0, F, O, env, r, e, q⟩ => q σ F H O r e
/-- a slot is stored -/
theorem put_ok {env : DEnv} {σ : L2.St} {i : Nat} {s : Sl} {v : V} {F' H' : Hp} {Of : OL} (r : EnvRep k F O env σ) (e : Ext F0 H0 F H O) (hi : i < env.length) (x : Ext F H F' H' Of) (rv : RepO k F' s.1 Of s.2 v) :
    ∃ O', EnvRep k F' O' (setSlot i s env) (σ.set i (some v)) ∧ Ext F0 H0 F' H' O' := by
  obtain ⟨A, C, h1, h2, h3⟩ := r.put (o := s.1) (d := s.2) hi x.sF rv
  refine ⟨_, h3, (e.trans x).sub (fun p hp => ?_) ?_⟩
  · rcases List.mem_append.mp hp with z | z
    · exact List.mem_append_right _ (h1 p (List.mem_append_left _ z))
    · rcases List.mem_append.mp z with z | z
      · exact List.mem_append_left _ z
      · exact List.mem_append_right _ (h1 p (List.mem_append_right _ z))
  · have n : (((Of ++ (A ++ C))).map (·.1)).Nodup := ((List.Sublist.refl _).append h2).map _ |>.nodup (e.trans x).nd
    refine (List.Perm.nodup_iff (List.Perm.map _ ?_)).mp n
    rw [← List.append_assoc, ← List.append_assoc]
    exact List.Perm.append_right _ List.perm_append_comm
theorem tS_set {i : Nat} {se : Ev} {σ : L2.St} {H : Hp} (h : tS k E (setS i se) D σ H) : tAsg (tD k E true se) (gName i) D σ H := by
  obtain ⟨F0, H0, F, O, env, r, e, q⟩ := h
  unfold setS at q
  split at q
  · rename_i hi
    simp only [decide_eq_true_eq] at hi
    refine ⟨F, O, env, e.bs r, OutS.fst (x := se env) e r q fun s v F' H' Of Ob e1 x rv c q => ?_⟩
    cases (show Ob = Of from c)
    obtain ⟨O', r', e'⟩ := put_ok r e hi x rv
    exact q _ F' H' O' r' e'
  · exact q.elim
theorem loc_d {y : Str} (B : BOk k T E X) (h : locB T.sc y = true) : L2.Loc X.env.scope y := B.x.loc y h
theorem seqs_ok {f : Stmt → Ex} (h : ∀ st, PS X st (tS k E (f st))) : ∀ l : List Stmt, PSs X l (tS k E (seqS f l))
  | [] => pssI pss_nil fun D σ H ⟨F0, H0, F, O, env, r, e, q⟩ => q σ F H O r e
  | st :: l => by
    refine pssI (pss_cons (h st) (seqs_ok h l)) fun D σ H ⟨F0, H0, F, O, env, r, e, q⟩ => ⟨F0, H0, F, O, env, r, e, ?_⟩
    unfold seqS at q
    cases z : f st env with
    | exc x => rw [z] at q; exact q
    | bad => rw [z] at q; exact q
    | ok fl =>
      rw [z, R.bind_ok] at q
      cases fl with
      | nx env' => exact fun σ' F' H' O' r' e' => ⟨F0, H0, F', O', env', r', e', q⟩
      | rt s => exact q
      | bk env' => exact q
      | ct env' => exact q
      | xc x env' => exact q
theorem ps_ifS {c : Expr} {a b : List Stmt} {pos : Pos} {tc : DEnv → R Bool} {sa sb : Ex} (hc : PT X c (tDT k E tc)) (ha : PSs X a (tS k E sa)) (hb : PSs X b (tS k E sb)) : PS X (.If c a b pos) (tS k E (ifS tc sa sb)) := by
  refine psI (ps_if hc ha hb) fun D σ H ⟨F0, H0, F, O, env, r, e, q⟩ => ⟨F, O, env, e.bs r, OutS.fstT (x := tc env) e r q fun s F' H' e1 x q => ?_⟩
  have e' : Ext F0 H0 F' H' O := by simpa using e.trans x
  cases s with
  | true => exact ⟨F0, H0, F', O, env, r.mono x.sF, e', q⟩
  | false => exact ⟨F0, H0, F', O, env, r.mono x.sF, e', q⟩
theorem ps_retS {e : Expr} {pos : Pos} {se : Ev} (he : PE X e (tD k E true se)) : PS X (.Return (some e) pos) (tS k E (retS se)) := by
  refine psI (ps_ret he) fun D σ H ⟨F0, H0, F, O, env, r, ex, q⟩ => ⟨F, O, env, ex.bs r, OutS.fst (x := se env) ex r q fun s v F' H' Of Ob e1 x rv c q => ?_⟩
  cases (show Ob = Of from c)
  exact q v F' H' Of (ex.drop x) rv
theorem ps_drpS {e : Expr} {pos : Pos} {se : Ev} (he : PE X e (tD k E true se)) (hs : swapsWith e none pos.line X.env = pure false) : PS X (.Expr e pos) (tS k E (drpS se)) := by
  refine psI (ps_expr he hs) fun D σ H ⟨F0, H0, F, O, env, r, ex, q⟩ => ⟨F, O, env, ex.bs r, OutS.fst (x := se env) ex r q fun s v F' H' Of Ob e1 x rv c q => ?_⟩
  cases (show Ob = Of from c)
  exact q σ F' H' O (r.mono x.sF) ((ex.trans x).sub (fun p hp => List.mem_append_right _ hp) ex.nd)
theorem ps_retV {y : Str} {p pos : Pos} {i : Nat} (B : BOk k T E X) (h : slotOf T y = some i) : PS X (.Return (some (.Name y p)) pos) (tS k E (retS (varB i))) := by
  obtain ⟨h1, h2, h3⟩ := slotOf_at h
  obtain ⟨d1, d2, _⟩ := okName_d h3
  refine psI (ps_ret (pe_var (i := i) (by rw [B.x.hN]; exact h1) (B.x.vis y h2) d1 d2)) fun D σ H ⟨F0, H0, F, O, env, r, ex, q⟩ => ?_
  unfold retS varB at q
  split at q
  · rename_i s e
    obtain ⟨A, Bo, C, v, e1, e2, rv, _⟩ := r.slot (o := s.1) (d := s.2) e
    subst e1
    refine ⟨v, e2, q v F H Bo (ex.sub (fun p hp => List.mem_append_right _ (List.mem_append_left _ hp)) ?_) rv⟩
    have n := ex.nd
    rw [List.map_append, List.nodup_append] at n
    have n2 := n.2.1
    rw [List.map_append, List.nodup_append] at n2
    exact n2.1
  · exact q.elim
theorem ps_retN : PS X (.Return none pos) (tS k E (retS fun _ => .ok (.sh, .non))) := psI L2.ps_retN fun D σ H ⟨F0, H0, F, O, env, r, ex, q⟩ => q .non F H [] (ex.sub (fun _ z => nomatch z) List.nodup_nil) (.sh .non)
theorem set_same {σ : L2.St} {i : Nat} {x : Option V} (h : σ[i]? = some x) : σ.set i x = σ := by
  refine List.ext_getElem? fun j => ?_
  rw [List.getElem?_set]
  split
  · rename_i ej; subst ej
    split
    · exact h.symm
    · rename_i hl; rw [List.getElem?_eq_none (by omega)]
  · rfl
theorem ps_appS {y : Str} {p1 ap p pos : Pos} {a : Expr} {sa : Ev} {i : Nat} (B : BOk k T E X) (h : slotOf T y = some i) (ha : PE X a (tD k E true sa)) (hs : star a = false) (hl : (ap.endLine == p.line) = true) :
    PS X (.Expr (.Call (.Attribute (.Name y p1) "append" ap) [a] [] p) pos) (tS k E (appS i sa)) := by
  obtain ⟨h1, h2, h3⟩ := slotOf_at h
  obtain ⟨d1, d2, _⟩ := okName_d h3
  refine psI (ps_expr (pe_bm PySem.F.plainAttrs_list PySem.F.slot_list_append PySem.F.type_list_append mt_append (pe_var (i := i) (by rw [B.x.hN]; exact h1) (B.x.vis y h2) d1 d2) (pa_cons ha pa_nil (star_cons hs)) rfl (by rw [star_cons hs]; rfl) hl (star_cons hs) rfl) rfl) fun D σ H ⟨F0, H0, F, O, env, r, ex, q⟩ => ?_
  unfold appS at q
  split at q
  · rename_i xs e
    obtain ⟨A, Bo, C, v, e1, e2, rv, f, _⟩ := r.slot e
    subst e1
    cases rv with
    | @lst o Ol p vs ds rl =>
      obtain ⟨rfl, rp⟩ := rl.shs
      have hp : H p = some (.lst vs) := (ex.own (p, .lst vs) (by simp)).2.1
      refine ⟨.ref p, e2, .inl ⟨rfl, vs, .inl (.inl hp)⟩, F, _, env, ex.bs r, OutS.fst (x := sa env) (b := true) ex r q fun s v F' H' Of Ob e3 x rv c q => ?_⟩
      obtain ⟨o, d⟩ := s
      cases o with
      | sh =>
        rw [show Sl.asSh (.sh, d) = .ok (.sh, d) from rfl, cat_ok] at q
        split at q
        · rename_i hz
          simp only [decide_eq_true_eq] at hz
          cases rv with
          | sh rv =>
            refine ⟨p, vs, v, rfl, rfl, x.sH _ _ hp, by rw [rp.length]; exact hz, ?_⟩
            have rn : RepO k F' (.lst .sh) [(p, .lst (vs ++ [v]))] (.lst (xs ++ [d])) (.ref p) := .lst (repOl_sh ((rp.mono x.sF).snoc rv))
            have z := f F' _ _ _ _ x.sF rn
            rw [set_same e2] at z
            refine q σ F' _ _ z ?_
            have e4 : Ext F0 H0 F' H' ((p, .lst vs) :: (A ++ C)) := by
              have w := (ex.trans x).sub (O' := A ++ ([(p, .lst vs)] ++ C)) (fun q hq => List.mem_append_right _ hq) ex.nd
              refine w.perm ?_
              exact (List.perm_middle (l₁ := A) (l₂ := C)).symm
            exact e4.wr.perm List.perm_middle
        · exact q.elim
      | lst => exact q.elim
      | tup => exact q.elim
      | ino => exact q.elim
  · exact q.elim
theorem repF_put {F : Hp} {f : Str} {d : PyD.D} {v : V} (h : Rep k F d v) : ∀ {fs : List (Str × PyD.D)} {vs : List (Str × V)}, RepF k F fs vs → RepF k F (putD f d fs) (putF f v vs)
  | _, _, .nil => .cons h .nil
  | _, _, .cons (x := x) h' t => by
    unfold putD putF
    split
    · exact .cons h t
    · exact .cons h' (repF_put h t)
theorem repF_len {F : Hp} : ∀ {fs : List (Str × PyD.D)} {vs : List (Str × V)}, RepF k F fs vs → vs.length = fs.length
  | _, _, .nil => rfl
  | _, _, .cons _ t => by rw [List.length_cons, List.length_cons, repF_len t]
theorem putD_no {K : PySem.W.Frag} {C : Addr} {f : Str} {d : PyD.D} (hf : NoAttr K C f) : ∀ {fs : List (Str × PyD.D)}, (∀ p ∈ fs, NoAttr K C p.1) → ∀ p ∈ putD f d fs, NoAttr K C p.1
  | [], _, p, hp => by
    rw [show putD f d [] = [(f, d)] from rfl, List.mem_singleton] at hp
    rw [hp]; exact hf
  | (g, x) :: r, h, p, hp => by
    unfold putD at hp
    split at hp
    · rcases List.mem_cons.1 hp with e | e
      · rw [e]; exact h (g, x) List.mem_cons_self
      · exact h p (List.mem_cons_of_mem _ e)
    · rcases List.mem_cons.1 hp with e | e
      · rw [e]; exact h (g, x) List.mem_cons_self
      · exact putD_no hf (fun q hq => h q (List.mem_cons_of_mem _ hq)) p e
theorem ps_fldS {y : Str} {p1 p pos : Pos} {f : Str} {a : Expr} {sa : Ev} {i : Nat} (B : BOk k T E X) (h : slotOf T y = some i) (ha : PE X a (tD k E true sa)) :
    PS X (.Assign [.Attribute (.Name y p1) f p] a pos) (tS k E (fldS T.cls i f sa)) := by
  obtain ⟨h1, h2, h3⟩ := slotOf_at h
  obtain ⟨d1, d2, _⟩ := okName_d h3
  refine psI (ps_fld (pe_var (i := i) (by rw [B.x.hN]; exact h1) (B.x.vis y h2) d1 d2) ha (by cases a <;> rfl)) fun D σ H ⟨F0, H0, F, O, env, r, ex, q⟩ => ?_
  unfold fldS at q
  split at q
  · rename_i c fs e
    obtain ⟨A, Bo, C, v, e1, e2, rv, g, _⟩ := r.slot e
    subst e1
    split at q
    · rename_i ci hci
      split at q
      · rename_i hno
        simp only [Bool.and_eq_true, decide_eq_true_eq] at hno
        cases rv with
        | @ino p' C' dx vfs _ _ hc hk hm rf =>
          refine ⟨F, _, env, ex.bs r, OutS.fst (x := sa env) (b := true) ex r q fun s w F' H' Of Ob e3 x rw' cc q => ?_⟩
          obtain ⟨o, d⟩ := s
          cases o with
          | sh =>
            rw [show Sl.asSh (.sh, d) = .ok (.sh, d) from rfl, cat_ok] at q
            cases rw' with
            | sh rw' =>
              have hp : H' p' = some (.ins C' dx vfs) := x.sH _ _ (ex.own (p', .ins C' dx vfs) (by simp)).2.1
              obtain ⟨C2, hC2, cl, no⟩ := B.x.cls c ci hci
              rw [hc] at hC2
              cases hC2
              rw [← B.x.hK] at cl no
              refine ⟨.ref p', e2, p', C', dx, vfs, rfl, hp, cl, no f hno.1, by rw [repF_len rf]; exact hno.2, ?_⟩
              have rn : RepO k F' .ino [(p', .ins C' dx (putF f w vfs)), (dx, .own p')] (.ins c (putD f d fs)) (.ref p') := .ino hc (by rw [← B.x.hK]; exact ⟨cl, putD_no (no f hno.1) (by rw [B.x.hK]; exact hk.2)⟩) hm (repF_put rw' (RepF.mono x.sF rf))
              have z := g F' _ _ _ _ x.sF rn
              rw [set_same e2] at z
              refine q σ F' _ _ z ?_
              have e4 : Ext F0 H0 F' H' ((p', .ins C' dx vfs) :: (A ++ ((dx, .own p') :: C))) := by
                have w := (ex.trans x).sub (O' := A ++ ([(p', .ins C' dx vfs), (dx, .own p')] ++ C)) (fun q hq => List.mem_append_right _ hq) ex.nd
                refine w.perm ?_
                exact (List.perm_middle (l₁ := A) (l₂ := (dx, .own p') :: C)).symm
              exact e4.wr.perm List.perm_middle
          | lst => exact q.elim
          | tup => exact q.elim
          | ino => exact q.elim
      · exact q.elim
    · exact q.elim
  · exact q.elim
/-! ### raise -/
theorem fmt_of {k : Ki} {F : Hp} {d : PyD.D} {v : V} (r : Rep k F d v) (h : fmtD d = true) : Fmt v := by
  cases r with
  | str y => exact .inl ⟨y, rfl, by simpa [fmtD] using h⟩
  | int i =>
    simp only [fmtD, Bool.and_eq_true, decide_eq_true_eq] at h
    exact .inr ⟨i, rfl, h.1, h.2⟩
  | _ => cases h
theorem ps_raise1 {c x slf : Str} {C D' fI : Addr} {lev : Nat} {fd : FuncData} {fm : Bool} {e : Expr} {se : Ev} {p pos pos' : Pos} {CXf : CXT} (B : BOk k T E X) (hcl : k.cl c = some C) (ox : OexC X.K C) (iC : PySem.W.findIn X.K (.ref C) "__init__" = some (some (.ref fI))) (tI : PySem.W.typeIn X.K (.ref fI) = some (.type "function"))
    (F1 : FnOk X.prog X.w X.K X.mg X.base CXf lev fI fd [slf, x] (spX1 X.K D' fm x)) (hx : Passes CXf X (fun _ _ _ => False)) (hr : Room (lev + 1) X.A) (hb : L2.Binds X.K fd [slf, x] []) (SC : SupC X.K C D') (hno : PySem.W.findIn X.K (.ref C) x = some none) (hg : Gl X c) (hm : X.mg c = some (.ref C))
    (hd : (c == ("__debug__" : Str)) = false) (he : PE X e (tD k E true se)) (hs : star e = false) : PS X (.Raise (some (.Call (.Name c p) [e] [] pos)) none pos') (tS k E (raiseS c x fm se)) := by
  refine psI (ps_raise B.x.calm B.tk (pmk_oex ox iC tI F1 hr hb .nil hx hg hm (pa_cons he pa_nil (star_cons hs)) hd (star_cons hs) rfl)) fun En σ H ⟨F0, H0, F, O, env, r, ex, q⟩ => ?_
  refine ⟨F, O, env, ex.bs r, OutS.fst (x := se env) (b := true) ex r q fun s v F' H' Of Ob e1 x1 rv cc q => ?_⟩
  obtain ⟨o, d⟩ := s
  cases o with
  | sh =>
    rw [show Sl.asSh (.sh, d) = .ok (.sh, d) from rfl, cat_ok] at q
    cases rv with
    | sh rv =>
      split at q
      · rename_i hf
        refine ⟨by simp, fun a na => ⟨a, C, v, by simp, SC, hno, upd_same, fun h => fmt_of rv (by rw [h] at hf; simpa using hf), fun dx nd ne => ⟨rfl, dx, [(x, v)], ?_, ?_, ?_, ?_⟩⟩⟩
        · exact upd_same
        · rw [upd_ne ne, upd_same]
        · rw [upd_ne ne] at nd; exact nd
        · rw [upd_ne ne] at nd
          have hh : upd (del (upd (upd (upd H' a (exo a C none)) dx (exd dx [(x, v)])) a (exo a C (some dx))) a) dx (.xd [(x, v)]) = upd H' dx (.xd [(x, v)]) := by
            funext b
            by_cases h1 : b = dx
            · rw [h1, upd_same, upd_same]
            · rw [upd_ne h1, upd_ne h1]
              by_cases h2 : b = a
              · rw [h2, del_same, na]
              · rw [del_ne h2, upd_ne h2, upd_ne h1, upd_ne h2]
          rw [hh]
          have fx : F' dx = none := by
            cases z : F' dx with
            | none => rfl
            | some u => rw [x1.fh _ _ z] at nd; cases nd
          have sF : Same F' (upd F' dx (.xd [(x, v)])) := fun b u hb => by rw [upd_ne (fun z => by rw [z, fx] at hb; cases hb)]; exact hb
          have e2 : Ext F' H' (upd F' dx (.xd [(x, v)])) (upd H' dx (.xd [(x, v)])) [] := by
            refine ⟨sF, fun b u hb => by rw [upd_ne (fun z => by rw [z, nd] at hb; cases hb)]; exact hb, fun b hb => upd_ne (fun z => hb (by rw [z]; exact nd)), fun b u hb => ?_, (fun _ z => nomatch z), List.nodup_nil⟩
            by_cases h1 : b = dx
            · rw [h1, upd_same] at hb ⊢; exact hb
            · rw [upd_ne h1] at hb ⊢; exact x1.fh _ _ hb
          have e3 := (ex.trans x1).trans e2
          refine q σ _ _ O _ _ ((r.mono x1.sF).mono sF) (e3.sub (fun z hz => by simp [hz]) ex.nd) ⟨C, hcl, rfl, .inr ⟨dx, [(x, v)], rfl, upd_same, .cons (rv.mono sF) .nil⟩⟩
      · exact q.elim
  | lst => exact q.elim
  | tup => exact q.elim
  | ino => exact q.elim
/-! ### loops -/
/-- a base from which on F1 stands -/
def base (H0 F1 : Hp) : Hp := fun a => match F1 a with | some o => some o | none => H0 a
theorem Ext.toBase {F0 H0 F1 H1 F' H' : Hp} {O1 O : OL} (e1 : Ext F0 H0 F1 H1 O1) (e : Ext F0 H0 F' H' O) (s : Same F1 F') : Ext F1 (base H0 F1) F' H' O := by
  refine ⟨s, fun a o h => ?_, fun a h => ?_, e.fh, fun p hp => ?_, e.nd⟩
  · unfold base at h
    cases q : F1 a with
    | none => rw [q] at h; exact e.sH _ _ h
    | some u => rw [q] at h; cases h; exact e.fh _ _ (s _ _ q)
  · unfold base at h
    cases q : F1 a with
    | none => rw [q] at h; rw [e.ag a h, ← e1.ag a h]; exact q
    | some u => exact s _ _ q
  · obtain ⟨h1, h2, h3⟩ := e.own p hp
    refine ⟨?_, h2, h3⟩
    unfold base
    rw [s.free h3]
    exact h1
theorem Ext.ofBase {F0 H0 F1 H1 F' H' : Hp} {O1 O : OL} (e1 : Ext F0 H0 F1 H1 O1) (e : Ext F1 (base H0 F1) F' H' O) : Ext F0 H0 F' H' O := by
  have b : ∀ a o, H0 a = some o → base H0 F1 a = some o := fun a o h => by
    unfold base
    cases q : F1 a with
    | none => exact h
    | some u =>
      have z := e1.fh _ _ q
      rw [e1.sH _ _ h] at z
      exact z.symm ▸ rfl
  refine ⟨e1.sF.trans e.sF, fun a o h => e.sH _ _ (b a o h), fun a h => ?_, e.fh, fun p hp => ?_, e.nd⟩
  · obtain ⟨o, ho⟩ := some_of_ne h
    rw [e.ag a (by rw [b a o ho]; exact fun z => nomatch z)]
    exact e1.ag a h
  · obtain ⟨h1, h2, h3⟩ := e.own p hp
    refine ⟨?_, h2, h3⟩
    cases q : H0 p.1 with
    | none => rfl
    | some o => rw [b _ _ q] at h1; cases h1
theorem OutS.bindEx {x : R Fl} {f : Fl → R Fl} (h : OutS k F0 H0 D E (x.bind f)) : (∃ fl, x = .ok fl ∧ OutS k F0 H0 D E (f fl)) ∨ ∃ e, x = .exc e ∧ OutS k F0 H0 D E (.exc e) := by
  cases x with
  | ok fl => exact .inl ⟨fl, rfl, h⟩
  | exc e => exact .inr ⟨e, rfl, h⟩
  | bad => exact h.elim
theorem pg_fn (B : BOk k T E X) (x : Str) (px : Pos) (i : Nat) (hl : locB T.sc x = true) (hix : ixOf x T.N = some i) : PG X (.Name x px) (gName i) :=
  pg_name (by rw [B.x.hN]; exact B.x.nd) (by rw [B.x.hN]; exact ixOf_at hix) (B.x.loc x hl) (.inl (B.fn x))
theorem ps_forT {tg : Expr} {pos : Pos} {iter : Expr} {body : List Stmt} {src : Src} {is : List Nat} {st : Tg} {sb : Ex} (B : BOk k T E X) (htg : tgIx T.N T.sc tg = some (is, st)) (hi : PI X tg iter (tI k E src.run)) (hb : PSs X body (tS k E sb)) (hs : ∀ v, foldedSetIterable iter X.env v = pure v) :
    PS X (.For tg iter body [] pos) (tS k E (forT st src sb)) := by
  have TG := tgOk_of (k := k) B.x.hK htg
  refine psI (ps_for B.po B.x.calm hi (tg_ok B.x.calm B.x.hK (pg_fn B) htg) hb hs) fun D σ H ⟨F0, H0, F, O, env, r, ex, q⟩ => ?_
  refine ⟨F, O, env, ex.bs r, OutS.fstI ex r q fun xs J F1 H1 Of e1 x1 w q => ?_⟩
  have ex1 : Ext F0 H0 F1 H1 O := (ex.trans x1).sub (fun p hp => List.mem_append_right _ hp) ex.nd
  refine ⟨fun n m σ' H' => m = xs.length - n ∧ n ≤ xs.length ∧ ∃ F' O' env', EnvRep k F' O' env' σ' ∧ Ext F0 H0 F' H' O' ∧ Same F1 F' ∧ OutS k F0 H0 D E (forG st sb (xs.drop n) env'),
    ⟨_, rfl, Nat.zero_le _, F1, O, env, r.mono x1.sF, ex1, Same.refl _, q⟩, ?_⟩
  rintro n m σ' H' ⟨rfl, hn, F', O', env', r', ex', sm, q'⟩
  by_cases hlt : n < xs.length
  · right
    have hat : xs[n]? = some xs[n] := List.getElem?_eq_getElem hlt
    obtain ⟨go, yl⟩ := w.item F' H' n _ sm ex'.fh hat
    rw [List.drop_eq_getElem_cons hlt] at q'
    unfold forG at q'
    cases hst : st xs[n] env' with
    | exc e => rw [hst] at q'; exact q'.elim
    | bad => rw [hst] at q'; exact q'.elim
    | ok en1 =>
      rw [hst, R.bind_ok] at q'
      refine ⟨go, fun σ'' H'' => n + 1 ≤ xs.length ∧ ∃ F' O' env', EnvRep k F' O' env' σ'' ∧ Ext F0 H0 F' H'' O' ∧ Same F1 F' ∧ OutS k F0 H0 D E (forG st sb (xs.drop (n + 1)) env'),
        fun σ'' H'' ⟨a, b⟩ => ⟨xs.length - (n + 1), by omega, rfl, a, b⟩, fun v H'' hy => ?_⟩
      obtain ⟨rfl, rv⟩ := yl v H'' hy
      refine TG F' H'' O' env' en1 σ' _ v _ r' ex'.fh rv hst fun σ2 ⟨O2, sub2, r2, _⟩ => ?_
      have ex2 : Ext F0 H0 F' H'' O2 := ex'.sub (fun p hp => sub2.subset hp) ((sub2.map _).nodup ex'.nd)
      refine ⟨F1, base H0 F1, F', O2, _, r2, ex1.toBase ex2 sm, ?_⟩
      rcases q'.bindEx with ⟨fl, e4, q4⟩ | ⟨e, e4, q4⟩
      · rw [e4]
        cases fl with
        | nx en => exact fun σ5 F5 H5 O5 r5 x5 => ⟨hlt, F5, O5, en, r5, ex1.ofBase x5, x5.sF, q4⟩
        | ct en => exact fun σ5 F5 H5 O5 r5 x5 => ⟨hlt, F5, O5, en, r5, ex1.ofBase x5, x5.sF, q4⟩
        | bk en => exact fun σ5 F5 H5 O5 r5 x5 => q4 σ5 F5 H5 O5 r5 (ex1.ofBase x5)
        | rt s => exact fun v F5 H5 O5 x5 r5 => q4 v F5 H5 O5 (ex1.ofBase x5) r5
        | xc x en => exact fun σ5 F5 H5 O5 cls dd r5 x5 rx => q4 σ5 F5 H5 O5 cls dd r5 (ex1.ofBase x5) rx
      · exact q4.elim
  · left
    have en : n = xs.length := by omega
    subst en
    refine ⟨w.stop F' H' sm ex'.fh, ?_⟩
    rw [List.drop_length] at q'
    exact q' σ' F' H' O' r' ex'
theorem ps_whileS {c : Expr} {body : List Stmt} {pos : Pos} {l : List Nat} {tc : DEnv → R Bool} {sb : Ex} {N : Nat} (B : BOk k T E X) (hc : PT X c (tDT k E tc)) (hb : PSs X body (tS k E sb)) : PS X (.While c body [] pos) (tS k E (whileD l tc sb N)) := by
  refine psI (ps_while B.po hc hb) fun D σ H ⟨F0, H0, F, O, env, r, ex, q⟩ => ?_
  refine ⟨fun m σ' H' => ∃ F' O' env', EnvRep k F' O' env' σ' ∧ Ext F0 H0 F' H' O' ∧ OutS k F0 H0 D E (whileD l tc sb m env'), ⟨N, F, O, env, r, ex, q⟩, ?_⟩
  rintro m σ' H' ⟨F', O', env', r', ex', q'⟩
  cases m with
  | zero => exact q'.elim
  | succ m =>
    unfold whileD at q'
    obtain ⟨F1, O1, r1, ex1⟩ := dem_ok (env := env') l r' ex'
    refine ⟨F1, O1, _, ex1.bs r1, OutS.fstT (x := tc (dem l env')) ex1 r1 q' fun b F2 H2 e2 x2 q2 => ?_⟩
    have ex2 : Ext F0 H0 F2 H2 O1 := by simpa using ex1.trans x2
    cases b with
    | false => exact q2 σ' F2 H2 O1 (r1.mono x2.sF) ex2
    | true =>
      rw [if_pos rfl] at q2
      refine ⟨fun σ'' H'' => ∃ F' O' env', EnvRep k F' O' env' σ'' ∧ Ext F0 H0 F' H'' O' ∧ OutS k F0 H0 D E (whileD l tc sb m env'), fun σ'' H'' z => ⟨m, Nat.lt_succ_self _, z⟩, F0, H0, F2, O1, _, r1.mono x2.sF, ex2, ?_⟩
      rcases q2.bindEx with ⟨fl, e4, q4⟩ | ⟨e, e4, q4⟩
      · rw [e4]
        cases fl with
        | nx en => exact fun σ5 F5 H5 O5 r5 x5 => ⟨F5, O5, en, r5, x5, q4⟩
        | ct en => exact fun σ5 F5 H5 O5 r5 x5 => ⟨F5, O5, en, r5, x5, q4⟩
        | bk en => exact q4
        | rt s => exact q4
        | xc x en => exact q4
      · exact q4.elim
end
end PyD
end
section
set_option Elab.async false
set_option linter.all false
set_option maxRecDepth 100000
set_option maxHeartbeats 4000000
namespace PyD
open PySem PySem.Spec PyProof.Rows L2
/-! ### ownership that is given up in part -/
mutual
theorem coe_ok {k : Ki} {F : Hp} : ∀ {o t : Ow} {O : OL} {d : D} {v : V}, coe t o = true → RepO k F o O d v → ∃ A B, O.Perm (A ++ B) ∧ ∀ F', Same F F' → (∀ p ∈ A, F' p.1 = some p.2) → RepO k F' t B d v
  | o, .sh, O, d, v, _, r => ⟨O, [], by rw [List.append_nil], fun F' sf h => .sh (r.frz sf h)⟩
  | .lst b, .lst a, _, .lst ds, .ref p, h, @RepO.lst _ _ _ _ _ vs _ r => by
    obtain ⟨A, B, pm, g⟩ := coeL_ok (t := a) (show coe a b = true from h) r
    refine ⟨A, (p, .lst vs) :: B, ?_, fun F' sf hA => .lst (g F' sf hA)⟩
    exact (List.Perm.cons _ pm).trans List.perm_middle.symm
  | _, .lst a, _, _, _, h, .sh _ => by cases h
  | _, .lst a, _, _, _, h, .tup _ _ => by cases h
  | _, .lst a, _, _, _, h, .ino _ _ _ _ => by cases h
  | _, .tup _, _, _, _, h, .sh _ => by cases h
  | _, .tup _, _, _, _, h, .lst _ => by cases h
  | _, .tup _, _, _, _, h, .tup _ _ => by cases h
  | _, .tup _, _, _, _, h, .ino _ _ _ _ => by cases h
  | _, .ino, _, _, _, h, .sh _ => by cases h
  | _, .ino, _, _, _, h, .lst _ => by cases h
  | _, .ino, _, _, _, h, .tup _ _ => by cases h
  | _, .ino, _, _, _, h, .ino _ _ _ _ => by cases h
theorem coeL_ok {k : Ki} {F : Hp} : ∀ {o t : Ow} {O : OL} {ds : List D} {vs : List V}, coe t o = true → RepOl k F o O ds vs → ∃ A B, O.Perm (A ++ B) ∧ ∀ F', Same F F' → (∀ p ∈ A, F' p.1 = some p.2) → RepOl k F' t B ds vs
  | _, _, _, _, _, _, .nil => ⟨[], [], List.Perm.refl _, fun _ _ _ => .nil⟩
  | _, _, _, _, _, h, .cons (O := O1) (O' := O2) r t => by
    obtain ⟨A1, B1, p1, g1⟩ := coe_ok h r
    obtain ⟨A2, B2, p2, g2⟩ := coeL_ok h t
    refine ⟨A1 ++ A2, B1 ++ B2, ?_, fun F' sf hA => .cons (g1 F' sf fun p hp => hA p (List.mem_append_left _ hp)) (g2 F' sf fun p hp => hA p (List.mem_append_right _ hp))⟩
    refine (p1.append p2).trans ?_
    rw [List.append_assoc, List.append_assoc]
    refine List.Perm.append_left _ ?_
    rw [← List.append_assoc, ← List.append_assoc]
    exact List.Perm.append_right _ List.perm_append_comm
end
section
variable {X : Cx} {k : Ki} {T : Tb} {E : L2.St → XK} {F0 H0 F H : Hp} {O : OL} {D : Ends}
theorem fit_ok {t : Ow} {s s' : Sl} {O R : OL} {v : V} (h : fit t s = .ok s') (r : RepO k F s.1 O s.2 v) (e : Ext F0 H0 F H (O ++ R)) : ∃ F' O', RepO k F' s'.1 O' s'.2 v ∧ Ext F0 H0 F' H (O' ++ R) ∧ Same F F' := by
  have part : ∀ {A B : OL}, O.Perm (A ++ B) → ∀ {o' : Ow} {d' : PyD.D}, (∀ F', Same F F' → (∀ p ∈ A, F' p.1 = some p.2) → RepO k F' o' B d' v) → ∃ F' O', RepO k F' o' O' d' v ∧ Ext F0 H0 F' H (O' ++ R) ∧ Same F F' := fun {A B} pm {o' d'} g => by
    have e' : Ext F0 H0 F H (A ++ (B ++ R)) := by
      refine e.perm ?_
      rw [← List.append_assoc]
      exact (List.Perm.append_right R pm).symm
    have nA : (A.map (·.1)).Nodup := by
      have n := e'.nd
      rw [List.map_append, List.nodup_append] at n
      exact n.1
    have sF : Same F (frz F A) := frz_same fun p hp => (e'.own p (List.mem_append_left _ hp)).2.2
    exact ⟨frz F A, B, g _ sF fun p hp => frz_at nA hp, e'.freeze, sF⟩
  obtain ⟨o, d⟩ := s
  unfold fit at h
  split at h
  · rename_i h1 h2
    cases h
    simp only at h2
    subst h2
    exact ⟨F, O, r, e, Same.refl _⟩
  · rename_i b h1 h2
    simp only at h1 h2
    subst h1 h2
    split at h
    · cases h
      refine part (A := O) (B := []) (by rw [List.append_nil]) fun F' sf hA => .sh (r.frz sf hA)
    · rename_i a
      cases h
      cases r with
      | lst r =>
        cases r
        exact ⟨F, _, .lst .nil, e, Same.refl _⟩
    · cases h
  · split at h
    · rename_i hc
      cases h
      obtain ⟨A, B, pm, g⟩ := coe_ok hc r
      exact part pm g
    · cases h
theorem fit_exc (t : Ow) (s : Sl) (e : Exn) : fit t s ≠ .exc e := by
  intro h
  unfold fit at h
  split at h
  · cases h
  · split at h <;> cases h
  · split at h <;> cases h
theorem fitS_ok {t : Ow} {s s' : Sl} (h : fitS t s = .ok s') : fit t s = .ok s' ∧ s'.1 = t := by
  unfold fitS at h
  obtain ⟨r, h1, h2⟩ := R.bind_eq_ok h
  split at h2
  · rename_i c; cases h2; exact ⟨h1, owEq_ok c⟩
  · cases h2
theorem fitS_exc (t : Ow) (s : Sl) (e : Exn) : fitS t s ≠ .exc e := by
  unfold fitS
  refine bind_exc (fit_exc t s) fun a e h => ?_
  split at h <;> cases h
theorem tS_setO {i : Nat} {t : Ow} {se : Ev} {σ : L2.St} {H : Hp} (h : tS k E (setO i t se) D σ H) : tAsg (tD k E true se) (gName i) D σ H := by
  obtain ⟨F0, H0, F, O, env, r, e, q⟩ := h
  unfold setO at q
  split at q
  · rename_i hi
    simp only [decide_eq_true_eq] at hi
    refine ⟨F, O, env, e.bs r, OutS.fst (x := se env) e r q fun s v F' H' Of Ob e1 x rv c q => ?_⟩
    cases (show Ob = Of from c)
    cases z : fit t s with
    | exc y => exact absurd z (fit_exc _ _ _)
    | bad => rw [z] at q; exact q.elim
    | ok s' =>
      rw [z, cat_ok] at q
      obtain ⟨F2, O2, rv2, x2, sf⟩ := fit_ok (R := []) z rv (by rw [List.append_nil]; exact x)
      rw [List.append_nil] at x2
      obtain ⟨O', r', e'⟩ := put_ok r e hi x2 rv2
      exact q _ F2 H' O' r' e'
  · exact q.elim
theorem ps_retO {e : Expr} {pos : Pos} {t : Ow} {se : Ev} (he : PE X e (tD k E true se)) : PS X (.Return (some e) pos) (tS k E (retO t se)) := by
  refine psI (ps_ret he) fun D σ H ⟨F0, H0, F, O, env, r, ex, q⟩ => ⟨F, O, env, ex.bs r, OutS.fst (x := se env) ex r q fun s v F' H' Of Ob e1 x rv c q => ?_⟩
  cases (show Ob = Of from c)
  cases z : fit t s with
  | exc y => exact absurd z (fit_exc _ _ _)
  | bad => rw [z] at q; exact q.elim
  | ok s' =>
    rw [z, cat_ok] at q
    obtain ⟨F2, O2, rv2, x2, sf⟩ := fit_ok (R := []) z rv (by rw [List.append_nil]; exact ex.drop x)
    rw [List.append_nil] at x2
    exact q v F2 H' O2 x2 rv2
/-! ### a, b = e -/
theorem repOt_sh {F : Hp} : ∀ {ds : List PyD.D} {vs : List V}, Reps k F ds vs → RepOt k F (List.replicate ds.length .sh) [] ds vs
  | _, _, .nil => .nil
  | _, _, .cons h t => .cons (O := []) (.sh h) (repOt_sh t)
theorem putO_ok {Q : L2.St → Hp → Prop} : ∀ {is : List Nat} {os : List Ow} {O2 O : OL} {ds : List PyD.D} {vs : List V} {env en : DEnv} {σ : L2.St}, RepOt k F os O2 ds vs → EnvRep k F O env σ → Ext F0 H0 F H (O2 ++ O) → putO is os ds env = .ok en →
    (∀ σ' O', EnvRep k F O' en σ' → Ext F0 H0 F H O' → Q σ' H) → gsOf is vs σ H Q
  | [], _, _, _, _, _, env, en, σ, .nil, r, e, h, q => by
    cases h
    exact ⟨rfl, q σ _ r e⟩
  | i :: is, _, _, O, _, _, env, en, σ, .cons (O := Oa) (O' := Ob) (v := v) rv t, r, e, h, q => by
    unfold putO at h
    split at h
    · rename_i hi
      simp only [decide_eq_true_eq] at hi
      refine ⟨v, _, rfl, ?_⟩
      obtain ⟨A, C, h1, h2, h3⟩ := r.put hi (Same.refl _) rv
      refine putO_ok t h3 ?_ h q
      refine e.sub (fun p hp => ?_) ?_
      · rcases List.mem_append.1 hp with z | z
        · exact List.mem_append_left _ (List.mem_append_right _ z)
        · rcases List.mem_append.1 z with z | z
          · exact List.mem_append_right _ (h1 p (List.mem_append_left _ z))
          · rcases List.mem_append.1 z with z | z
            · exact List.mem_append_left _ (List.mem_append_left _ z)
            · exact List.mem_append_right _ (h1 p (List.mem_append_right _ z))
      · have n : (((Oa ++ Ob) ++ (A ++ C)).map (·.1)).Nodup := ((List.Sublist.refl _).append h2).map _ |>.nodup e.nd
        refine (List.Perm.nodup_iff (List.Perm.map _ ?_)).mp n
        -- Oa ++ Ob ++ (A ++ C) and Ob ++ (A ++ (Oa ++ C))
        refine (List.Perm.append_right _ List.perm_append_comm).trans ?_
        rw [List.append_assoc]
        refine List.Perm.append_left _ ?_
        rw [← List.append_assoc, ← List.append_assoc]
        exact List.Perm.append_right _ List.perm_append_comm
    · cases h
  | [], _, _, _, _, _, _, _, _, .cons _ _, _, _, h, _ => by cases h
  | _ :: _, _, _, _, _, _, _, _, _, .nil, _, _, h, _ => by cases h
theorem putO_len : ∀ {is : List Nat} {os : List Ow} {ds : List PyD.D} {env en : DEnv}, putO is os ds env = .ok en → ds.length = is.length
  | [], [], [], _, _, _ => rfl
  | i :: is, o :: os, d :: ds, _, _, h => by
    unfold putO at h
    split at h
    · rw [List.length_cons, List.length_cons, putO_len h]
    · cases h
  | [], [], _ :: _, _, _, h => by cases h
  | [], _ :: _, _, _, _, h => by cases h
  | _ :: _, [], _, _, _, h => by cases h
  | _ :: _, _ :: _, [], _, _, h => by cases h
theorem parO_exc (s : Sl) (e : Exn) : parO s ≠ .exc e := by
  intro h
  unfold parO at h
  split at h
  · cases h
  · split at h <;> cases h
  · cases h
theorem ps_asgT {ts : List Expr} {tk tp : _} {e : Expr} {pos : Pos} {se : Ev} {is : List Nat} {st : Tg} (B : BOk k T E X) (htg : tgIx T.N T.sc (.Tuple ts tk tp) = some (is, st)) (he : PE X e (tD k E true se)) (h1 : isTup e = false) (h2 : isComp e = false) :
    PS X (.Assign [.Tuple ts tk tp] e pos) (tS k E (asgT is se)) := by
  refine psI (ps_asg he (tg_ok B.x.calm B.x.hK (pg_fn B) htg) (by cases e <;> first | rfl | cases h1 | cases h2) (by cases e <;> first | rfl | cases h1 | cases h2)) fun D σ H ⟨F0, H0, F, O, env, r, ex, q⟩ => ?_
  refine ⟨F, O, env, ex.bs r, OutS.fst (x := se env) ex r q fun s v F' H' Of Ob e1 x rv c q => ?_⟩
  cases (show Ob = Of from c)
  have ex2 : Ext F0 H0 F' H' (Of ++ O) := ex.trans x
  have r2 := r.mono x.sF
  have fin : ∀ (os : List Ow) (ds : List PyD.D) (a : Addr) (vs : List V), v = .ref a → SqT k.K F' a vs → RepOt k F' os Of ds vs → OutS k F0 H0 D E ((putO is os ds env).bind fun env' => .ok (.nx env')) → gOf X.K (.Tuple ts tk tp) is v σ H' D.nx := fun os ds a vs ev hr rt q => by
    cases z : putO is os ds env with
    | exc y => rw [z] at q; exact q.elim
    | bad => rw [z] at q; exact q.elim
    | ok en =>
      rw [z, R.bind_ok] at q
      have hs := seqT x.fh hr
      rw [← B.x.hK] at hs
      exact ⟨a, vs, ev, hs, by rw [rt.length, putO_len z], putO_ok rt r2 ex2 z fun σ' O' r' e' => q σ' F' H' O' r' e'⟩
  obtain ⟨o, d⟩ := s
  cases rv with
  | sh rv =>
    cases rv with
    | tup hr rr =>
      exact fin _ _ _ _ rfl hr (repOt_sh rr) q
    | _ => exact q.elim
  | tup hr rt =>
    rename_i os a vs ds
    unfold parO at q
    simp only at q
    split at q
    · exact fin _ _ _ _ rfl hr rt q
    · exact q.elim
  | lst => exact q.elim
  | ino => exact q.elim
/-! ### x += e -/
theorem binD_int {op : Operator} {i j : Int} (h : augOk op = true) : binD op (.sh, .int i) (.sh, .int j) = .ok (.sh, .int (match op with | .Sub => i - j | _ => i + j)) := by
  cases op <;> first | rfl | cases h
theorem ps_augS {y : Str} {py pos : Pos} {op : Operator} {e : Expr} {se : Ev} {i : Nat} (B : BOk k T E X) (hix : ixOf y T.N = some i) (hl : locB T.sc y = true) (hop : augOk op = true) (he : PE X e (tD k E true se)) : PS X (.AugAssign (.Name y py) op e pos) (tS k E (augS i op se)) := by
  have ho : PIp X op (ipI fun i j => match op with | .Sub => i - j | _ => i + j) := by
    cases op <;> first | exact ip_add | exact ip_sub | cases hop
  refine psI (ps_aug (i := i) (by rw [B.x.hN]; exact B.x.nd) (by rw [B.x.hN]; exact ixOf_at hix) (B.x.loc y hl) he ho (.inl (B.fn y))) fun D σ H ⟨F0, H0, F, O, env, r, ex, q⟩ => ?_
  unfold augS at q
  split at q
  · rename_i z ei
    obtain ⟨A, Bo, C, v, e1, e2, rv, g, _⟩ := r.slot ei
    subst e1
    cases rv with
    | sh rv =>
      cases rv
      refine ⟨.int z, e2, F, _, env, ex.bs r, OutS.fst (x := se env) (b := true) ex r q fun s w F' H' Of Ob e3 x rw' cc q => ?_⟩
      obtain ⟨o, d⟩ := s
      cases rw' with
      | sh rw' =>
        cases rw' with
        | int j =>
          simp only at q
          rw [binD_int hop, cat_ok] at q
          refine ⟨z, j, rfl, rfl, ?_⟩
          have ex2 : Ext F0 H0 F' H' (A ++ ([] ++ C)) := (ex.trans x).sub (fun p hp => List.mem_append_right _ hp) ex.nd
          exact q _ F' H' _ (g F' .sh _ [] _ x.sF (.sh (.int _))) ex2
        | _ => exact q.elim
      | lst => exact q.elim
      | tup => exact q.elim
      | ino => exact q.elim
  · exact q.elim
end
end PyD
end
section
set_option Elab.async false
set_option linter.all false
set_option maxRecDepth 100000
set_option maxHeartbeats 4000000
namespace PyD
open PySem PySem.Spec PyProof.Rows L2
/-! ### places in lists of lists -/
def valAt (H : Hp) : V → List Int → V → Prop
  | v, [], w => w = v
  | v, i :: r, w => ∃ p xs x, v = .ref p ∧ H p = some (.lst xs) ∧ atI xs i = some x ∧ valAt H x r w
theorem valAt_mono {H H' : Hp} (e : Same H H') : ∀ {is : List Int} {v w : V}, valAt H v is w → valAt H' v is w
  | [], _, _, h => h
  | _ :: _, _, _, ⟨p, xs, x, h1, h2, h3, h4⟩ => ⟨p, xs, x, h1, e _ _ h2, h3, valAt_mono e h4⟩
theorem valAt_det {H : Hp} : ∀ {is : List Int} {v w w' : V}, valAt H v is w → valAt H v is w' → w = w'
  | [], _, _, _, h, h' => h.trans h'.symm
  | _ :: _, _, _, _, ⟨p, xs, x, h1, h2, h3, h4⟩, ⟨p', xs', x', g1, g2, g3, g4⟩ => by
    rw [h1] at g1
    cases g1
    rw [h2] at g2
    cases g2
    rw [h3] at g3
    cases g3
    exact valAt_det h4 g4
theorem valAt_snoc {H : Hp} {i : Int} : ∀ {is : List Int} {v w : V}, valAt H v (is ++ [i]) w → ∃ p xs, valAt H v is (.ref p) ∧ H p = some (.lst xs) ∧ atI xs i = some w
  | [], _, _, ⟨p, xs, x, h1, h2, h3, h4⟩ => ⟨p, xs, h1.symm, h2, by rw [h3]; exact congrArg some h4.symm⟩
  | _ :: _, _, _, ⟨p, xs, x, h1, h2, h3, h4⟩ => by
    obtain ⟨p', xs', g1, g2, g3⟩ := valAt_snoc h4
    exact ⟨p', xs', ⟨p, xs, x, h1, h2, h3, g1⟩, g2, g3⟩
theorem valAt_app {H : Hp} {i : Int} : ∀ {is : List Int} {v : V} {p : Addr} {xs : List V} {w : V}, valAt H v is (.ref p) → H p = some (.lst xs) → atI xs i = some w → valAt H v (is ++ [i]) w
  | [], v, p, xs, w, h, h2, h3 => ⟨p, xs, w, (show V.ref p = v from h).symm, h2, h3, rfl⟩
  | _ :: _, _, _, _, _, ⟨p, xs, x, h1, h2, h3, h4⟩, g2, g3 => ⟨p, xs, x, h1, h2, h3, valAt_app h4 g2 g3⟩
/-- one item of a list that is one's own, and the others -/
theorem RepOl.pick {k : Ki} {F : Hp} {o : Ow} : ∀ {O : OL} {ds : List D} {vs : List V} {j : Nat} {d : D}, RepOl k F o O ds vs → ds[j]? = some d →
    ∃ A B C v, O = A ++ (B ++ C) ∧ vs[j]? = some v ∧ RepO k F o B d v ∧ ∀ F' B' d', Same F F' → RepO k F' o B' d' v → RepOl k F' o (A ++ (B' ++ C)) (ds.set j d') vs
  | _, _, _, 0, _, .cons (O := O) (O' := O') h t, e => by
    cases e
    exact ⟨[], O, O', _, rfl, rfl, h, fun F' B' d' s r => (show RepOl _ _ _ (B' ++ O') _ _ from .cons r (RepOl.mono s t))⟩
  | _, _, _, j + 1, _, .cons (O := O) h t, e => by
    obtain ⟨A, B, C, v, e1, e2, r, f⟩ := t.pick (j := j) (by simpa using e)
    refine ⟨O ++ A, B, C, v, by rw [e1, List.append_assoc], by simpa using e2, r, fun F' B' d' s r' => ?_⟩
    rw [List.append_assoc]
    exact .cons (h.mono s) (f F' B' d' s r')
theorem perm_mid {α : Type} {A B C B1 C1 : List α} (h : B.Perm (B1 ++ C1)) : (A ++ (B ++ C)).Perm (B1 ++ (A ++ (C1 ++ C))) := by
  refine (List.Perm.append_left A (List.Perm.append_right C h)).trans ?_
  rw [List.append_assoc, ← List.append_assoc A B1, ← List.append_assoc B1 A]
  exact List.Perm.append_right _ List.perm_append_comm
/-- what stands at a place, and what is to stand there -/
theorem RepO.path {k : Ki} {F H : Hp} {f : Ow → D → R D} : ∀ {is : List Int} {o : Ow} {O : OL} {d : D} {v : V}, RepO k F o O d v → (∀ p ∈ O, H p.1 = some p.2) → pathOk is o d = true →
    ∃ w o' d' B C, O.Perm (B ++ C) ∧ valAt H v is w ∧ RepO k F o' B d' w ∧ ∀ d2, updO is f o d = .ok d2 → ∃ d3, f o' d' = .ok d3 ∧ ∀ F' B', Same F F' → RepO k F' o' B' d3 w → ∃ O', O'.Perm (B' ++ C) ∧ RepO k F' o O' d2 v
  | [], o, O, d, v, r, hO, _ => ⟨v, o, d, O, [], by rw [List.append_nil], rfl, r, fun d2 h => ⟨d2, h, fun F' B' s r' => ⟨B', by rw [List.append_nil], r'⟩⟩⟩
  | i :: is, .lst o, _, _, _, .lst (O := Ol) (a := p) (vs := vs) (ds := xs) rl, hO, hp => by
    unfold pathOk at hp
    split at hp
    · rename_i x hx
      cases hj : ixN xs.length i with
      | none => rw [hj] at hx; cases hx
      | some j =>
        rw [hj, Option.bind_some] at hx
        obtain ⟨A, B, C, y, e1, e2, rx, g⟩ := rl.pick hx
        have hB : ∀ q ∈ B, H q.1 = some q.2 := fun q hq => hO q (List.mem_cons_of_mem _ (by rw [e1]; exact List.mem_append_right _ (List.mem_append_left _ hq)))
        obtain ⟨w, o', d', B1, C1, pm, va, rw', upd⟩ := RepO.path (f := f) (is := is) rx hB hp
        have pp : p = p := rfl
        refine ⟨w, o', d', B1, (p, .lst vs) :: (A ++ (C1 ++ C)), ?_, ⟨p, vs, y, rfl, hO (p, .lst vs) List.mem_cons_self, ?_, va⟩, rw', fun d2 h => ?_⟩
        · rw [e1]
          exact (List.Perm.cons _ (perm_mid pm)).trans List.perm_middle.symm
        · unfold atI
          rw [rl.length, hj]
          exact e2
        · unfold updO at h
          rw [hj, Option.bind_some, hx, Option.map_some, R.need_some, R.bind_ok] at h
          obtain ⟨x', h1, h2⟩ := R.bind_eq_ok h
          cases h2
          obtain ⟨d3, h3, g2⟩ := upd x' h1
          refine ⟨d3, h3, fun F' B' s r' => ?_⟩
          obtain ⟨O', pm', r2⟩ := g2 F' B' s r'
          refine ⟨(p, .lst vs) :: (A ++ (O' ++ C)), ?_, .lst (g F' O' x' s r2)⟩
          exact (List.Perm.cons _ (perm_mid pm')).trans List.perm_middle.symm
    · cases hp
  | _ :: _, .sh, _, _, _, .sh _, _, hp => by unfold pathOk at hp; cases hp
  | _ :: _, .tup _, _, _, _, .tup _ _, _, hp => by unfold pathOk at hp; cases hp
  | _ :: _, .ino, _, _, _, .ino _ _ _ _, _, hp => by unfold pathOk at hp; cases hp
section
variable {X : Cx} {k : Ki} {T : Tb} {E : L2.St → XK} {s : Sm} {D : Ends}
/-- x[e].. read as a place -/
def tPth (k : Ki) (E : L2.St → XK) (i : Nat) (es : List Ev) : TE := fun σ H Q => ∃ F O env o d is, Bs k F O env σ H ∧ env[i]? = some (some (o, d)) ∧ intsE es env = .ok is ∧ pathOk is o d = true ∧ ∀ F' H', Ext F H F' H' [] → ∀ v v0, σ[i]? = some (some v0) → valAt H' v0 is v → Q v H'
theorem noExc_app {x : R Sl} : noExc x ≠ .bad → ∃ s, x = .ok s ∧ noExc x = .ok s := by
  cases x with
  | ok s => exact fun _ => ⟨s, rfl, rfl⟩
  | exc _ => exact fun h => absurd rfl h
  | bad => exact fun h => absurd rfl h
theorem intsE_snoc {es : List Ev} {e : Ev} {env : DEnv} : ∀ {is : List Int}, intsE (es ++ [e]) env = .ok is → ∃ is0 i w, is = is0 ++ [i] ∧ intsE es env = .ok is0 ∧ e env = .ok w ∧ w.2 = .int i := by
  induction es with
  | nil =>
    intro is h
    obtain ⟨x, h1, h2⟩ := R.bind_eq_ok (show (noExc (e env)).bind _ = _ from h)
    obtain ⟨i, h3, h4⟩ := R.bind_eq_ok h2
    obtain ⟨r, h5, h6⟩ := R.bind_eq_ok h4
    cases h5
    cases h6
    refine ⟨[], i, x, rfl, rfl, noExc_ok h1, ?_⟩
    unfold intD at h3
    split at h3 <;> cases h3
    assumption
  | cons a r ih =>
    intro is h
    obtain ⟨x, h1, h2⟩ := R.bind_eq_ok (show (noExc (a env)).bind _ = _ from h)
    obtain ⟨i, h3, h4⟩ := R.bind_eq_ok h2
    obtain ⟨js, h5, h6⟩ := R.bind_eq_ok h4
    cases h6
    obtain ⟨is0, i1, w, e1, e2, e3, e4⟩ := ih h5
    refine ⟨i :: is0, i1, w, by rw [e1]; rfl, ?_, e3, e4⟩
    unfold intsE
    rw [h1, R.bind_ok, h3, R.bind_ok, e2]
    rfl
theorem intsE_exc : ∀ (es : List Ev) (env : DEnv) (x : Exn), intsE es env ≠ .exc x
  | [], _, _ => fun h => by cases h
  | e :: r, env, x => by
    unfold intsE
    refine bind_exc (fun y h => ?_) fun a y => bind_exc (fun y h => ?_) fun b y => bind_exc (fun y => intsE_exc r env y) fun _ _ h => nomatch h
    · cases z : e env with
      | ok _ => rw [z] at h; cases h
      | exc _ => rw [z] at h; cases h
      | bad => rw [z] at h; cases h
    · unfold intD at h
      split at h <;> cases h
theorem pathOk_pre {i : Int} : ∀ {is : List Int} {o : Ow} {d : PyD.D}, pathOk (is ++ [i]) o d = true → pathOk is o d = true
  | [], _, _, _ => rfl
  | j :: r, o, d, h => by
    cases o with
    | lst o =>
      cases d with
      | lst xs =>
        have h : (match (ixN xs.length j).bind fun j => xs[j]? with | some x => pathOk (r ++ [i]) o x | none => false) = true := h
        show (match (ixN xs.length j).bind fun j => xs[j]? with | some x => pathOk r o x | none => false) = true
        split at h
        · rename_i x hx; exact pathOk_pre h
        · cases h
      | _ => cases h
    | _ => cases h
theorem EnvRep.slotV {F : Hp} {O : OL} {env : DEnv} {σ : L2.St} {i : Nat} {o : Ow} {d : PyD.D} (r : EnvRep k F O env σ) (e : env[i]? = some (some (o, d))) : ∃ v, σ[i]? = some (some v) := by
  obtain ⟨A, B, C, v, e1, e2, _⟩ := r.slot e
  exact ⟨v, e2⟩
theorem Bs.at {F H : Hp} {O : OL} {env : DEnv} {σ : L2.St} {i : Nat} {o : Ow} {d : PyD.D} {is : List Int} {v0 : V} (B : Bs k F O env σ H) (e : env[i]? = some (some (o, d))) (h0 : σ[i]? = some (some v0)) (hp : pathOk is o d = true) : ∃ w, valAt H v0 is w := by
  obtain ⟨A, Bo, C, v, e1, e2, rv, _⟩ := B.er.slot e
  rw [h0] at e2
  cases e2
  obtain ⟨w, _, _, _, _, _, va, _⟩ := RepO.path (f := fun _ _ => .bad) rv (fun p hp => (B.ow p (by rw [e1]; exact List.mem_append_right _ (List.mem_append_left _ hp))).1) hp
  exact ⟨w, va⟩
theorem pe_pth (S : SOk s) (O : XOk k T E X) {i : Nat} {y : Str} (hi : slotOf T y = some i) : ∀ {P : Expr} {es : List Expr}, pathOf P = some (y, es) → PE X P (tPth k E i (es.map (s.E T)))
  | P, es, h => by
    unfold pathOf at h
    split at h
    · rename_i x pos
      cases h
      obtain ⟨h1, h2, h3⟩ := slotOf_at hi
      obtain ⟨d1, d2, _⟩ := okName_d h3
      refine peI (pe_var (i := i) (by rw [O.hN]; exact h1) (O.vis y h2) d1 d2) fun σ H Q ⟨F, OO, env, o, d, is, B, e, e1, _, q⟩ => ?_
      obtain ⟨v, e2⟩ := B.er.slotV e
      cases e1
      exact ⟨v, e2, q F H (Ext.refl B.sf) v v e2 rfl⟩
    · rename_i a b pos
      split at h
      · rename_i hpl
        cases ha : pathOf a with
        | none => rw [ha] at h; cases h
        | some p =>
          obtain ⟨y', es0⟩ := p
          rw [ha] at h
          cases h
          have ih := pe_pth S O hi ha
          refine peI (pe_ix ix_list ih (S.E O b) (plain_ix hpl)) fun σ H Q ⟨F, OO, env, o, d, is, B, e, e1, ok, q⟩ => ?_
          rw [List.map_append, List.map_cons, List.map_nil] at e1
          obtain ⟨is0, j, w, rfl, e2, e3, e4⟩ := intsE_snoc e1
          obtain ⟨v0, hv0⟩ := B.er.slotV e
          obtain ⟨u, hu⟩ := B.at e hv0 ok
          obtain ⟨pl, xs, g1, g2, g3⟩ := valAt_snoc hu
          refine ⟨F, OO, env, o, d, is0, B, e, e2, pathOk_pre ok, fun F1 H1 x1 v v0' hv0' va => ?_⟩
          rw [hv0] at hv0'
          cases hv0'
          have ev := valAt_det va (valAt_mono x1.sH g1)
          subst ev
          refine ⟨F1, OO, env, B.ext x1, ?_⟩
          rw [e3]
          intro v2 F2 H2 Of Ob x2 r2 c2
          cases (show Ob = Of from c2)
          obtain ⟨ow, dw⟩ := w
          cases (show dw = _ from e4)
          cases r2 with
          | sh r2 =>
            cases r2
            have x12 : Ext F H F2 H2 [] := x1.drop x2
            have g2' : H2 pl = some (.lst xs) := x12.sH _ _ g2
            exact ⟨pl, xs, j, u, rfl, rfl, .inl (.inl g2'), g3, q F2 H2 x12 u v0 hv0 (valAt_app (valAt_mono x12.sH g1) g2' g3)⟩
      · cases h
    · cases h
/-- what stands at the place of a slot, and the slots when it is changed -/
theorem slot_path {f : Ow → PyD.D → R PyD.D} {F H F' H' F0 H0 : Hp} {O : OL} {env : DEnv} {σ : L2.St} {i : Nat} {o : Ow} {d d2 : PyD.D} {is : List Int} {v0 v : V} (r : EnvRep k F O env σ) (ex : Ext F0 H0 F H O) (e : env[i]? = some (some (o, d))) (h0 : σ[i]? = some (some v0)) (ok : pathOk is o d = true) (sF : Same F F') (sH : Same H H') (va : valAt H' v0 is v) (hu : updO is f o d = .ok d2) :
    ∃ o' d' d3 B C, O.Perm (B ++ C) ∧ RepO k F' o' B d' v ∧ f o' d' = .ok d3 ∧ ∀ F2 B', Same F' F2 → RepO k F2 o' B' d3 v → ∃ O', O'.Perm (B' ++ C) ∧ EnvRep k F2 O' (setSlot i (o, d2) env) σ := by
  obtain ⟨A, Bo, C0, u, e1, e2, rv, g, _⟩ := r.slot e
  rw [h0] at e2
  cases e2
  have hO : ∀ p ∈ Bo, H' p.1 = some p.2 := fun p hp => sH _ _ (ex.own p (by rw [e1]; exact List.mem_append_right _ (List.mem_append_left _ hp))).2.1
  obtain ⟨w, o', d', B, C, pm, va', rw', upd⟩ := RepO.path (f := f) (is := is) rv hO ok
  have ew := valAt_det va va'
  subst ew
  obtain ⟨d3, h3, g3⟩ := upd d2 hu
  refine ⟨o', d', d3, B, A ++ (C ++ C0), ?_, rw'.mono sF, h3, fun F2 B' s2 r2 => ?_⟩
  · rw [e1]; exact perm_mid pm
  · obtain ⟨O', pm', r3⟩ := g3 F2 B' (sF.trans s2) r2
    have z := g F2 o d2 O' v0 (sF.trans s2) r3
    rw [set_same h0] at z
    exact ⟨_, perm_mid pm', z⟩
/-- some of a list, in any order -/
def Sbp {α : Type} (a b : List α) : Prop := ∃ l : List α, l.Perm a ∧ l.Sublist b
theorem Sbp.map {α β : Type} {f : α → β} {a b : List α} (h : Sbp a b) : Sbp (a.map f) (b.map f) := by
  obtain ⟨l, p, s⟩ := h
  exact ⟨l.map f, p.map f, s.map f⟩
theorem Sbp.nodup {α : Type} {a b : List α} (h : Sbp a b) (n : b.Nodup) : a.Nodup := by
  obtain ⟨l, p, s⟩ := h
  exact p.nodup_iff.1 (s.nodup n)
theorem Sbp.mem {α : Type} {a b : List α} (h : Sbp a b) {x : α} (hx : x ∈ a) : x ∈ b := by
  obtain ⟨l, p, s⟩ := h
  exact s.subset (p.mem_iff.2 hx)
theorem Sbp.perm {α : Type} {a b c : List α} (h : Sbp a b) (p : b.Perm c) : Sbp a c := by
  obtain ⟨l, q, s⟩ := h
  obtain ⟨l', q', s'⟩ := List.exists_perm_sublist s p
  exact ⟨l', q'.trans q, s'⟩
theorem RepOl.put {k : Ki} {F : Hp} {o : Ow} {O2 : OL} {d : PyD.D} {v : V} : ∀ {O : OL} {ds : List PyD.D} {vs : List V} (r : RepOl k F o O ds vs) (n : Nat), RepO k F o O2 d v → ∃ O', Sbp O' (O2 ++ O) ∧ RepOl k F o O' (ds.set n d) (vs.set n v)
  | _, _, _, .nil, n, _ => ⟨[], ⟨[], List.Perm.refl _, List.nil_sublist _⟩, by simpa using RepOl.nil⟩
  | _, _, _, .cons (O := Oa) (O' := Ob) h t, 0, r => ⟨O2 ++ Ob, ⟨O2 ++ Ob, List.Perm.refl _, (List.Sublist.refl O2).append (List.sublist_append_right Oa Ob)⟩, .cons r t⟩
  | _, _, _, .cons (O := Oa) (O' := Ob) h t, n + 1, r => by
    obtain ⟨O', ⟨l, p, s⟩, r2⟩ := RepOl.put t n r
    refine ⟨Oa ++ O', ?_, .cons h r2⟩
    have e1 : Sbp (Oa ++ O') (Oa ++ (O2 ++ Ob)) := ⟨Oa ++ l, p.append_left Oa, (List.Sublist.refl Oa).append s⟩
    refine e1.perm ?_
    rw [← List.append_assoc, ← List.append_assoc]
    exact List.Perm.append_right _ List.perm_append_comm
theorem pathL_ok {is : List Int} {o : Ow} {d : PyD.D} (h : pathL is o d = true) : pathOk is o d = true ∧ ∃ d2, updO is leafL o d = .ok d2 := by
  unfold pathL at h
  simp only [Bool.and_eq_true] at h
  refine ⟨h.1, ?_⟩
  cases z : updO is leafL o d with
  | ok d2 => exact ⟨d2, rfl⟩
  | exc _ => rw [z] at h; exact absurd h.2 (by intro z; cases z)
  | bad => rw [z] at h; exact absurd h.2 (by intro z; cases z)
theorem need_exc {α : Type} (x : Option α) (e : Exn) : R.need x ≠ .exc e := by
  cases x <;> exact fun h => nomatch h
theorem updO_exc {f : Ow → PyD.D → R PyD.D} (hf : ∀ o d x, f o d ≠ .exc x) : ∀ (is : List Int) (o : Ow) (d : PyD.D) (x : Exn), updO is f o d ≠ .exc x
  | [], o, d, x => by unfold updO; exact hf o d x
  | i :: r, o, d, x => by
    cases o with
    | lst o =>
      cases d with
      | lst xs =>
        unfold updO
        exact bind_exc (need_exc _) fun a e => bind_exc (fun y => updO_exc hf r _ _ y) fun _ _ h => by cases h
      | _ => intro h; cases h
    | _ => intro h; cases h
theorem leafA_exc (y : Sl) (o : Ow) (d : PyD.D) (x : Exn) : leafA y o d ≠ .exc x := by
  intro h
  unfold leafA at h
  split at h
  · refine bind_exc (fitS_exc _ _) (fun a e => ?_) h
    split <;> exact fun z => nomatch z
  · cases h
theorem leafS_exc (i : Int) (y : Sl) (o : Ow) (d : PyD.D) (x : Exn) : leafS i y o d ≠ .exc x := by
  intro h
  unfold leafS at h
  split at h
  · exact bind_exc (fitS_exc _ _) (fun a e => bind_exc (need_exc _) fun _ _ z => by cases z) h
  · cases h
/-- the list at the place is there -/
theorem list_at {F H F1 H1 F0 H0 : Hp} {O : OL} {env : DEnv} {σ : L2.St} {i : Nat} {o : Ow} {d : PyD.D} {is : List Int} {v0 v : V} (r : EnvRep k F O env σ) (ex : Ext F0 H0 F H O) (e : env[i]? = some (some (o, d))) (h0 : σ[i]? = some (some v0)) (pl : pathL is o d = true) (sF : Same F F1) (sH : Same H H1) (va : valAt H1 v0 is v) : ∃ p vs, v = .ref p ∧ H1 p = some (.lst vs) := by
  obtain ⟨ok, d2, h2⟩ := pathL_ok pl
  obtain ⟨o', d', d3, B, C, pm, rB, hl, _⟩ := slot_path r ex e h0 ok sF sH va h2
  unfold leafL at hl
  split at hl
  · cases rB with
    | lst rl => exact ⟨_, _, rfl, sH _ _ (ex.own _ (pm.mem_iff.2 (List.mem_append_left _ List.mem_cons_self))).2.1⟩
  · cases hl
theorem ps_appP (S : SOk s) (B : BOk k T E X) {P : Expr} {y : Str} {ap p pos : Pos} {a : Expr} {es : List Expr} {sa : Ev} {i : Nat} (h : slotOf T y = some i) (hp : pathOf P = some (y, es)) (hb : call0 P = false) (ha : PE X a (tD k E true sa)) (hs : star a = false) (hl : (ap.endLine == p.line) = true) :
    PS X (.Expr (.Call (.Attribute P "append" ap) [a] [] p) pos) (tS k E (appP i (es.map (s.E T)) sa)) := by
  refine psI (ps_expr (pe_bm PySem.F.plainAttrs_list PySem.F.slot_list_append PySem.F.type_list_append mt_append (pe_pth S B.x h hp) (pa_cons ha pa_nil (star_cons hs)) (base_ok hb) (by rw [star_cons hs]; rfl) hl (star_cons hs) rfl) rfl) fun D σ H ⟨F0, H0, F, O, env, r, ex, q⟩ => ?_
  unfold appP at q
  split at q
  · rename_i o d e
    cases hi : intsE (es.map (s.E T)) env with
    | exc x => exact absurd hi (intsE_exc _ _ _)
    | bad => rw [hi] at q; exact q.elim
    | ok is =>
      rw [hi, cat_ok] at q
      split at q
      · rename_i pl
        refine ⟨F, O, env, o, d, is, ex.bs r, e, hi, (pathL_ok pl).1, fun F1 H1 x1 v v0 h0 va => ?_⟩
        obtain ⟨pp, vs, rfl, hpp⟩ := list_at r ex e h0 pl x1.sF x1.sH va
        have ex1 : Ext F0 H0 F1 H1 O := by simpa using ex.trans x1
        have r1 := r.mono x1.sF
        refine ⟨.inl ⟨rfl, vs, .inl (.inl hpp)⟩, F1, O, env, ex1.bs r1, OutS.fst (x := sa env) (b := true) ex1 r1 q fun sy yv F2 H2 Of Ob e3 x2 ry cc q => ?_⟩
        cases (show Ob = Of from cc)
        cases hu : updO is (leafA sy) o d with
        | exc x => exact absurd hu (updO_exc (leafA_exc sy) _ _ _ _)
        | bad => rw [hu] at q; exact q.elim
        | ok d2 =>
          rw [hu, R.bind_ok] at q
          obtain ⟨o', d', d3, B0, C, pm, rB, hf, up⟩ := slot_path r1 ex1 e h0 (pathL_ok pl).1 x2.sF x2.sH (valAt_mono x2.sH va) hu
          unfold leafA at hf
          split at hf
          · rename_i o2 xs
            obtain ⟨y', hy, hf⟩ := R.bind_eq_ok hf
            split at hf
            · rename_i hz
              simp only [decide_eq_true_eq] at hz
              cases hf
              obtain ⟨hy1, hy2⟩ := fitS_ok hy
              cases rB with
              | @lst _ B1 _ vs2 _ rl =>
                have ev : vs2 = vs := by
                  have z := (ex1.own (pp, .lst vs2) (pm.mem_iff.2 (List.mem_append_left _ List.mem_cons_self))).2.1
                  rw [hpp] at z
                  exact (HO.lst.inj (Option.some.inj z)).symm
                subst ev
                obtain ⟨F3, O3, ry3, x3, s3⟩ := fit_ok (R := O) hy1 ry (ex1.trans x2)
                have hp2 : H2 pp = some (.lst vs2) := x2.sH _ _ hpp
                refine ⟨pp, vs2, yv, rfl, rfl, hp2, by rw [rl.length]; exact hz, ?_⟩
                rw [hy2] at ry3
                obtain ⟨O', pm', r4⟩ := up F3 ((pp, .lst (vs2 ++ [yv])) :: (B1 ++ O3)) s3 (.lst (RepOl.snoc ry3 (RepOl.mono s3 rl)))
                refine q σ F3 _ O' r4 ?_
                -- what is owned now
                have w : Ext F0 H0 F3 H2 ((pp, .lst vs2) :: (B1 ++ (O3 ++ C))) := by
                  refine x3.perm ?_
                  refine List.Perm.trans ?_ (List.Perm.append_left O3 pm.symm)
                  refine List.Perm.trans ?_ List.perm_append_comm
                  show ((pp, .lst vs2) :: (B1 ++ (O3 ++ C))).Perm ((pp, .lst vs2) :: ((B1 ++ C) ++ O3))
                  refine List.Perm.cons _ ?_
                  rw [List.append_assoc]
                  exact List.Perm.append_left B1 List.perm_append_comm
                refine w.wr.perm ?_
                refine pm'.trans ?_
                show ((pp, .lst (vs2 ++ [yv])) :: ((B1 ++ O3) ++ C)).Perm ((pp, .lst (vs2 ++ [yv])) :: (B1 ++ (O3 ++ C)))
                rw [List.append_assoc]
            · cases hf
          · cases hf
      · exact q.elim
  · exact q.elim
theorem ps_setP (S : SOk s) (B : BOk k T E X) {P j : Expr} {y : Str} {sp pos : Pos} {a : Expr} {es : List Expr} {sa : Ev} {i : Nat} (h : slotOf T y = some i) (hp : pathOf P = some (y, es)) (ha : PE X a (tD k E true sa)) (hj : plainIx j = true) :
    PS X (.Assign [.Subscript P j sp] a pos) (tS k E (setP i (es.map (s.E T)) (s.E T j) sa)) := by
  refine psI (ps_asg ha (pg_sub (pe_pth S B.x h hp) (S.E B.x j) set_list (ha := fun v => by cases j <;> first | rfl | cases hj)) (by cases a <;> rfl) (by cases a <;> rfl)) fun D σ H ⟨F0, H0, F, O, env, r, ex, q⟩ => ?_
  unfold setP at q
  refine ⟨F, O, env, ex.bs r, OutS.fst (x := sa env) (b := true) ex r q fun sy yv F1 H1 Of Ob e3 x1 ry cc q => ?_⟩
  cases (show Ob = Of from cc)
  split at q
  · rename_i o d e
    cases hi : intsE (es.map (s.E T)) env with
    | exc x => exact absurd hi (intsE_exc _ _ _)
    | bad => rw [hi] at q; exact q.elim
    | ok is =>
      rw [hi, cat_ok] at q
      split at q
      · rename_i pl
        have ex1 : Ext F0 H0 F1 H1 O := (ex.trans x1).sub (fun p hp => List.mem_append_right _ hp) ex.nd
        have r1 := r.mono x1.sF
        refine ⟨F1, O, env, o, d, is, ex1.bs r1, e, hi, (pathL_ok pl).1, fun F2 H2 x2 v v0 h0 va => ?_⟩
        obtain ⟨pp, vs, rfl, hpp⟩ := list_at r1 ex1 e h0 pl x2.sF x2.sH va
        have ex2 : Ext F0 H0 F2 H2 O := by simpa using ex1.trans x2
        have r2 := r1.mono x2.sF
        refine ⟨F2, O, env, ex2.bs r2, OutS.fst (x := s.E T j env) (b := true) ex2 r2 q fun sj jv F3 H3 Oj Obj e4 x3 rj cj q => ?_⟩
        cases (show Obj = Oj from cj)
        obtain ⟨oj, dj⟩ := sj
        cases rj with
        | sh rj =>
          cases rj with
          | int kk =>
            rw [show intD (Ow.sh, PyD.D.int kk) = .ok kk from rfl, cat_ok] at q
            cases hu : updO is (leafS kk sy) o d with
            | exc x => exact absurd hu (updO_exc (leafS_exc kk sy) _ _ _ _)
            | bad => rw [hu] at q; exact q.elim
            | ok d2 =>
              rw [hu, R.bind_ok] at q
              obtain ⟨o', d', d3, B0, C, pm, rB, hf, up⟩ := slot_path r2 ex2 e h0 (pathL_ok pl).1 x3.sF x3.sH (valAt_mono x3.sH va) hu
              unfold leafS at hf
              split at hf
              · rename_i o2 xs
                obtain ⟨y', hy, hf⟩ := R.bind_eq_ok hf
                cases hn : ixN xs.length kk with
                | none => rw [hn] at hf; cases hf
                | some n =>
                  rw [hn, R.need_some, R.bind_ok] at hf
                  cases hf
                  obtain ⟨hy1, hy2⟩ := fitS_ok hy
                  cases rB with
                  | @lst _ B1 _ vs2 _ rl =>
                    have ev : vs2 = vs := by
                      have z := (ex2.own (pp, .lst vs2) (pm.mem_iff.2 (List.mem_append_left _ List.mem_cons_self))).2.1
                      rw [hpp] at z
                      exact (HO.lst.inj (Option.some.inj z)).symm
                    subst ev
                    have x23 : Ext F1 H1 F3 H3 [] := x2.drop x3
                    have xx : Ext F0 H0 F3 H3 (Of ++ O) := by simpa using (ex.trans x1).trans x23
                    obtain ⟨F4, O4, ry4, x4, s4⟩ := fit_ok (R := O) hy1 (ry.mono x23.sF) xx
                    have hp3 : H3 pp = some (.lst vs2) := x3.sH _ _ hpp
                    have hn' : ixN vs2.length kk = some n := by rw [rl.length]; exact hn
                    refine ⟨pp, vs2, kk, n, rfl, rfl, hp3, hn', ?_⟩
                    rw [hy2] at ry4
                    obtain ⟨B2, pm2, rl2⟩ := RepOl.put (RepOl.mono s4 rl) n ry4
                    obtain ⟨O', pm', r4⟩ := up F4 ((pp, .lst (vs2.set n yv)) :: B2) s4 (.lst rl2)
                    refine q σ F4 _ O' r4 ?_
                    have w0 : Ext F0 H0 F4 H3 ((pp, .lst vs2) :: ((O4 ++ B1) ++ C)) := by
                      refine x4.perm ?_
                      refine List.Perm.trans ?_ (List.Perm.append_left O4 pm.symm)
                      show ((pp, .lst vs2) :: ((O4 ++ B1) ++ C)).Perm (O4 ++ ((pp, .lst vs2) :: (B1 ++ C)))
                      rw [List.append_assoc]
                      exact List.perm_middle.symm
                    have w : Ext F0 H0 F4 H3 ((pp, .lst vs2) :: (B2 ++ C)) := by
                      obtain ⟨l, lp, ls⟩ := pm2
                      have sb : Sbp ((pp, HO.lst vs2) :: (B2 ++ C)) ((pp, HO.lst vs2) :: ((O4 ++ B1) ++ C)) := ⟨(pp, HO.lst vs2) :: (l ++ C), List.Perm.cons _ (lp.append_right C), List.Sublist.cons_cons _ (ls.append (List.Sublist.refl C))⟩
                      exact w0.sub (fun z hz => sb.mem hz) (sb.map.nodup w0.nd)
                    refine w.wr.perm ?_
                    exact pm'
              · cases hf
          | _ => exact q.elim
        | lst => exact q.elim
        | tup => exact q.elim
        | ino => exact q.elim
      · exact q.elim
  · exact q.elim
end
end PyD
end
section
set_option Elab.async false
set_option linter.all false
set_option maxRecDepth 100000
set_option maxHeartbeats 4000000
namespace PyD
open PySem PySem.Spec PyProof.Rows L2
/-! ### return of a tuple with parts that are handed over -/
section
variable {X : Cx} {k : Ki} {T : Tb} {E : L2.St → XK} {s : Sm} {D : Ends}
inductive MvRel (k : Ki) (F : Hp) (env : DEnv) (σ : L2.St) : List Mv → List Sl → List V → Prop where
  | nil : MvRel k F env σ [] [] []
  | mv {i : Nat} {x : Sl} {v : V} {ms : List Mv} {xs : List Sl} {vs : List V} (h : env[i]? = some (some x)) (h2 : σ[i]? = some (some v)) (t : MvRel k F env σ ms xs vs) : MvRel k F env σ (.mv i :: ms) (x :: xs) (v :: vs)
  | ev {e : Ev} {d : PyD.D} {v : V} {ms : List Mv} {xs : List Sl} {vs : List V} (h : Rep k F d v) (t : MvRel k F env σ ms xs vs) : MvRel k F env σ (.ev e :: ms) ((.sh, d) :: xs) (v :: vs)
theorem MvRel.mono {F F' : Hp} {env : DEnv} {σ : L2.St} (e : Same F F') : ∀ {ms : List Mv} {xs : List Sl} {vs : List V}, MvRel k F env σ ms xs vs → MvRel k F' env σ ms xs vs
  | _, _, _, .nil => .nil
  | _, _, _, .mv h h2 t => .mv h h2 (t.mono e)
  | _, _, _, .ev h t => .ev (h.mono e) (t.mono e)
theorem MvRel.length {F : Hp} {env : DEnv} {σ : L2.St} : ∀ {ms : List Mv} {xs : List Sl} {vs : List V}, MvRel k F env σ ms xs vs → vs.length = xs.length
  | _, _, _, .nil => rfl
  | _, _, _, .mv _ _ t => by rw [List.length_cons, List.length_cons, t.length]
  | _, _, _, .ev _ t => by rw [List.length_cons, List.length_cons, t.length]
theorem MvRel.unset {F : Hp} {env : DEnv} {σ : L2.St} {i : Nat} : ∀ {ms : List Mv} {xs : List Sl} {vs : List V}, i ∉ mvIx ms → MvRel k F env σ ms xs vs → MvRel k F (env.set i none) σ ms xs vs
  | _, _, _, _, .nil => .nil
  | .mv j :: ms, _, _, n, .mv h h2 t => by
    have n : i ∉ j :: mvIx ms := n
    rw [List.mem_cons, not_or] at n
    refine .mv ?_ h2 (t.unset n.2)
    rw [List.getElem?_set, if_neg n.1]
    exact h
  | _, _, _, n, .ev h t => .ev h (t.unset n)
theorem takes {F : Hp} : ∀ {ms : List Mv} {xs : List Sl} {vs : List V} {O : OL} {env : DEnv} {σ : L2.St}, EnvRep k F O env σ → MvRel k F env σ ms xs vs → (mvIx ms).Nodup → ∃ O', Sbp O' O ∧ RepOt k F (xs.map (·.1)) O' (xs.map (·.2)) vs
  | _, _, _, O, env, σ, r, .nil, _ => ⟨[], ⟨[], List.Perm.refl _, List.nil_sublist _⟩, .nil⟩
  | _, _, _, O, env, σ, r, .ev h t, n => by
    obtain ⟨O', sb, rt⟩ := takes r t n
    exact ⟨O', sb, .cons (O := []) (.sh h) rt⟩
  | _, _, _, O, env, σ, r, .mv (i := i) (x := x) (v := v) h h2 t, n => by
    obtain ⟨nn, n2⟩ := List.nodup_cons.1 (show (i :: mvIx _).Nodup from n)
    obtain ⟨A, B, C, v', e1, e2, rv, _, un⟩ := r.slot (o := x.1) (d := x.2) h
    rw [h2] at e2
    cases e2
    have r2 := un (some v)
    rw [set_same h2] at r2
    obtain ⟨O', sb, rt⟩ := takes r2 (t.unset nn) n2
    refine ⟨B ++ O', ?_, .cons rv rt⟩
    obtain ⟨l, p, sl⟩ := sb
    have z : Sbp (B ++ O') (B ++ (A ++ C)) := ⟨B ++ l, p.append_left B, (List.Sublist.refl B).append sl⟩
    refine z.perm ?_
    rw [e1, ← List.append_assoc, ← List.append_assoc]
    exact List.Perm.append_right _ List.perm_append_comm
def OutM (k : Ki) (F H : Hp) (env : DEnv) (σ : L2.St) (ms : List Mv) (Q : List V → Hp → Prop) (E : XK) : R (List Sl) → Prop
  | .ok xs => ∀ vs F' H', Ext F H F' H' [] → MvRel k F' env σ ms xs vs → Q vs H'
  | .exc x => ∀ F' H' cls dd, Ext F H F' H' [] → RepX k F' x cls dd → E cls dd H'
  | .bad => False
def tMv (k : Ki) (E : L2.St → XK) (ms : List Mv) : TA := fun σ H Q => ∃ F O env, Bs k F O env σ H ∧ OutM k F H env σ ms Q (E σ) (mvsE ms env)
theorem pa_mv (S : SOk s) (O : XOk k T E X) : ∀ {es : List Expr} {os : List Ow} {ms : List Mv}, mvOf s T os es = some ms → es.any star = false → PA X es (tMv k E ms)
  | [], [], ms, h, _ => by
    cases h
    exact paI pa_nil fun σ H Q ⟨F, O, env, B, q⟩ => q [] F H (Ext.refl B.sf) .nil
  | e :: es, o :: os, ms, h, hs => by
    rw [List.any_cons, Bool.or_eq_false_iff] at hs
    unfold mvOf at h
    cases hr : mvOf s T os es with
    | none => rw [hr] at h; cases h
    | some r =>
      rw [hr, Option.bind_some] at h
      have ih := pa_mv S O hr hs.2
      split at h
      · cases h
        refine paI (pa_cons (pe_frz (S.E O e)) ih (star_cons hs.1)) fun σ H Q ⟨F, O, env, B, q⟩ => ⟨F, O, env, B, ?_⟩
        unfold mvsE at q
        cases z : frzE (s.E T e) env with
        | exc x => rw [z] at q; exact q
        | bad => rw [z] at q; exact q
        | ok x =>
          rw [z, R.bind_ok] at q
          intro v F1 H1 Of Ob x1 r1 c1
          cases (show Ob = Of from c1)
          have hx : x.1 = .sh := by
            unfold frzE at z
            obtain ⟨y, _, z2⟩ := R.bind_eq_ok z
            cases z2
            rfl
          obtain ⟨ox, dx⟩ := x
          simp only at hx
          subst hx
          cases r1 with
          | sh r1 =>
            refine ⟨F1, O, env, B.ext x1, ?_⟩
            cases z2 : mvsE r env with
            | exc y => rw [z2] at q; exact fun F' H' cls dd e2 r2 => q F' H' cls dd (x1.drop e2) r2
            | bad => rw [z2] at q; exact q
            | ok xs =>
              rw [z2, R.bind_ok] at q
              exact fun vs F2 H2 x2 rel => q (v :: vs) F2 H2 (x1.drop x2) (.ev (r1.mono x2.sF) rel)
      · split at h
        · rename_i _ x px
          cases hi : slotOf T x with
          | none => rw [hi] at h; cases h
          | some i =>
            rw [hi] at h
            cases h
            obtain ⟨h1, h2, h3⟩ := slotOf_at hi
            obtain ⟨d1, d2, _⟩ := okName_d h3
            refine paI (pa_cons (pe_var (i := i) (by rw [O.hN]; exact h1) (O.vis x h2) d1 d2) ih (star_cons hs.1)) fun σ H Q ⟨F, O, env, B, q⟩ => ?_
            unfold mvsE at q
            cases z : varB i env with
            | exc y => unfold varB at z; split at z <;> cases z
            | bad => rw [z] at q; exact q.elim
            | ok y =>
              rw [z, R.bind_ok] at q
              have hy : env[i]? = some (some y) := by
                unfold varB at z
                split at z
                · cases z; assumption
                · cases z
              obtain ⟨v, hv⟩ := B.er.slotV (o := y.1) (d := y.2) hy
              refine ⟨v, hv, F, O, env, B, ?_⟩
              cases z2 : mvsE r env with
              | exc y => rw [z2] at q; exact q
              | bad => rw [z2] at q; exact q
              | ok xs =>
                rw [z2, R.bind_ok] at q
                exact fun vs F2 H2 x2 rel => q (v :: vs) F2 H2 x2 (.mv hy hv rel)
        · cases h
  | [], _ :: _, _, h, _ => by cases h
  | _ :: _, [], _, h, _ => by cases h
theorem ps_retT (S : SOk s) (B : BOk k T E X) {es : List Expr} {os : List Ow} {ms : List Mv} {tk : Nat} {tp pos : Pos} (h : mvOf s T os es = some ms) (hs : es.any star = false) : PS X (.Return (some (.Tuple es tk tp)) pos) (tS k E (retT ms)) := by
  refine psI (ps_ret (pe_tup (pa_mv S B.x h hs))) fun D σ H ⟨F0, H0, F, O, env, r, ex, q⟩ => ⟨F, O, env, ex.bs r, ?_⟩
  unfold retT at q
  cases z : mvsE ms env with
  | bad => rw [z] at q; exact q.elim
  | exc x =>
    rw [z] at q
    exact fun F' H' cls dd e rx => q σ F' H' O cls dd (r.mono e.sF) (by simpa using ex.trans e) rx
  | ok xs =>
    rw [z, cat_ok] at q
    split at q
    · rename_i c
      simp only [Bool.and_eq_true, decide_eq_true_eq] at c
      intro vs F1 H1 x1 rel
      refine ⟨by rw [rel.length]; exact c.1, fun p np => ?_⟩
      obtain ⟨O', sb, rt⟩ := takes (r.mono x1.sF) rel c.2
      have ex1 : Ext F0 H0 F1 H1 O := by simpa using ex.trans x1
      have e2 : Ext F0 H0 (upd F1 p (.tup vs)) (upd H1 p (.tup vs)) O' := by
        have w : Ext F0 H0 (upd F1 p (.tup vs)) (upd H1 p (.tup vs)) O := by simpa using ex1.trans (Ext.newF (o := .tup vs) ex1.fh np)
        exact w.sub (fun q hq => sb.mem hq) (sb.map.nodup w.nd)
      exact q (.ref p) _ _ O' e2 (.tup (.inl (.inl upd_same)) (RepOt.mono (Ext.newF (o := .tup vs) ex1.fh np).sF rt))
    · exact q.elim
end
end PyD
end
section
set_option Elab.async false
set_option linter.all false
set_option maxRecDepth 100000
set_option maxHeartbeats 4000000
namespace PyD
open PySem PySem.Spec PyProof.Rows L2
section
variable {X : Cx} {k : Ki} {T : Tb} {E : L2.St → XK} {s : Sm} {D : Ends}
theorem swap_of (B : BOk k T E X) {y : Str} {py : Pos} {e : Expr} {l : Nat} (h : (!isComp e || (compScope e).isSome) = true) : swapsWith e (some (.Name y py)) l X.env = pure (swapB T.sc y py e) := by
  cases e with
  | ListComp elt gs sc2 pos =>
    have bk : X.env.blockKind = .function := by unfold Env.blockKind; rw [B.kind]; rfl
    have e1 : (X.env.kindOf y == some NameKind.local) = (match T.sc.names.lookup y with | some .local => true | _ => false) := by
      show (X.env.scope.names.lookup y == some .local) = _
      rw [B.sc]
      cases T.sc.names.lookup y with
      | none => rfl
      | some kd => cases kd <;> rfl
    unfold swapsWith swapB compScope
    simp only [bk, e1, Expr.pos]
    rfl
  | SetComp => cases h
  | DictComp => cases h
  | _ => rfl
theorem bad_set {i : Nat} {σ : L2.St} {H : Hp} : ¬ tS k E (setS i badE) D σ H := by
  rintro ⟨F0, H0, F, O, env, r, ex, q⟩
  unfold setS at q
  split at q <;> exact q
theorem ps_asgn (S : SOk s) (B : BOk k T E X) {y : Str} {py pos : Pos} {e : Expr} {i : Nat} (hix : ixOf y T.N = some i) (hl : locB T.sc y = true) (hc : (!isComp e || (compScope e).isSome) = true) : PS X (.Assign [.Name y py] e pos) (tS k E (setS i (stepE s T e))) := by
  have O := B.x
  have nd : X.N.Nodup := by rw [O.hN]; exact O.nd
  have hi : X.N[i]? = some y := by rw [O.hN]; exact ixOf_at hix
  cases hsw : swapB T.sc y py e with
  | false => exact psI (ps_set nd hi (O.loc y hl) (stepE_ok S O e) (by rw [swap_of B hc, hsw]) (.inl (B.fn y))) fun D σ H h => tS_set h
  | true =>
    have hsw' := swap_of (y := y) (l := pos.line) (py := py) B hc
    rw [hsw] at hsw'
    cases e with
    | ListComp elt gs scope pos2 =>
      have hyl : X.env.scope.names.lookup y = some .local := by
        unfold swapB compScope at hsw
        simp only [Bool.and_eq_true] at hsw
        rw [B.sc]
        have z := hsw.1.1
        split at z
        · assumption
        · cases z
      have key : ∀ {t : Ev}, stepE s T (.ListComp elt gs scope pos2) = t → PS X (.Assign [.Name y py] (.ListComp elt gs scope pos2) pos) (tS k E (setS i t)) := fun {t} et => by
        subst et
        unfold stepE
        split
        all_goals try (rename_i z; cases z; done)
        all_goals try (cases ‹Expr.ListComp _ _ _ _ = _›)
        · rename_i tg iter ifs hz
          split
          · rename_i is st t hix2 ht
            split
            · rename_i c
              simp only [Bool.and_eq_true, Bool.not_eq_true', List.all_eq_true, decide_eq_true_eq] at c
              exact psI (ps_setLc O.calm nd hi hyl hsw' (pi_src O (S.B O) (S.E O)) (comp_blk O c.1.1) (comp_tg O hix2) (fun s H C cl fp => pts_of S (O.blk s H _ cl C fp) ht) (fun s H C cl fp => pe_frz (S.E (O.blk s H _ cl C fp) _)) (folded_ok c.2)) fun D σ H h => comp_imp O hix2 c.1.2 (tS_set h)
            · exact ⟨fun _ _ _ _ _ _ h => (bad_set h).elim⟩
          · exact ⟨fun _ _ _ _ _ _ h => (bad_set h).elim⟩
        · exact ⟨fun _ _ _ _ _ _ h => (bad_set h).elim⟩
      exact key rfl
    | _ => exact absurd hsw (by unfold swapB compScope; simp)
theorem bad_setO {i : Nat} {t : Ow} {σ : L2.St} {H : Hp} : ¬ tS k E (setO i t badE) D σ H := by
  rintro ⟨F0, H0, F, O, env, r, ex, q⟩
  unfold setO at q
  split at q <;> exact q
theorem ps_asgO (S : SOk s) (B : BOk k T E X) {y : Str} {py pos : Pos} {e : Expr} {i : Nat} {t : Ow} (hix : ixOf y T.N = some i) (hl : locB T.sc y = true) (hc : (!isComp e || (compScope e).isSome) = true) : PS X (.Assign [.Name y py] e pos) (tS k E (setO i t (stepO s T e))) := by
  have O := B.x
  have nd : X.N.Nodup := by rw [O.hN]; exact O.nd
  have hi : X.N[i]? = some y := by rw [O.hN]; exact ixOf_at hix
  cases hsw : swapB T.sc y py e with
  | false => exact psI (ps_set nd hi (O.loc y hl) (stepO_ok S O e) (by rw [swap_of B hc, hsw]) (.inl (B.fn y))) fun D σ H h => tS_setO h
  | true =>
    have hsw' := swap_of (y := y) (l := pos.line) (py := py) B hc
    rw [hsw] at hsw'
    cases e with
    | ListComp elt gs scope pos2 =>
      have hyl : X.env.scope.names.lookup y = some .local := by
        unfold swapB compScope at hsw
        simp only [Bool.and_eq_true] at hsw
        rw [B.sc]
        have z := hsw.1.1
        split at z
        · assumption
        · cases z
      have key : ∀ {u : Ev}, stepO s T (.ListComp elt gs scope pos2) = u → PS X (.Assign [.Name y py] (.ListComp elt gs scope pos2) pos) (tS k E (setO i t u)) := fun {u} et => by
        unfold stepO at et
        split at et
        · rename_i z; cases z
        · rename_i elt' tg iter ifs sc' p' hz
          cases hz
          subst et
          split
          · rename_i is st t hix2 ht
            split
            · rename_i c
              simp only [Bool.and_eq_true, Bool.not_eq_true', List.all_eq_true, decide_eq_true_eq] at c
              exact psI (ps_setLc O.calm nd hi hyl hsw' (pi_src O (S.B O) (S.E O)) (comp_blk O c.1.1) (comp_tg O hix2) (fun s H C cl fp => pts_of S (O.blk s H _ cl C fp) ht) (fun s H C cl fp => S.O (O.blk s H _ cl C fp) _) (folded_ok c.2)) fun D σ H h => comp_imp O hix2 c.1.2 (tS_setO h)
            · exact ⟨fun _ _ _ _ _ _ h => (bad_setO h).elim⟩
          · exact ⟨fun _ _ _ _ _ _ h => (bad_setO h).elim⟩
        · subst et
          exact ⟨fun _ _ _ _ _ _ h => (bad_setO h).elim⟩
        · rename_i h1
          exact absurd rfl (h1 _ _ _ _)
      exact key rfl
    | _ => exact absurd hsw (by unfold swapB compScope; simp)
theorem stepX_ok (S : SOk s) {n : Nat} {x : Tb → Stmt → Ex} (hx : ∀ st, PS X st (tS k E (x T st))) (B : BOk k T E X) (st : Stmt) : PS X st (tS k E (stepX s n x T st)) := by
  have O := B.x
  unfold stepX
  split
  · exact ps_nx ps_pass
  · exact psI ps_break fun D σ H ⟨F0, H0, F, O, env, r, e, q⟩ => q σ F H O r e
  · exact psI ps_continue fun D σ H ⟨F0, H0, F, O, env, r, e, q⟩ => q σ F H O r e
  · exact ps_nx ps_doc
  · split
    · rename_i hm
      subst hm
      split
      · rename_i i h
        split
        · rename_i c
          simp only [Bool.and_eq_true, Bool.not_eq_true'] at c
          split
          · exact psI (ps_appS B h (pe_frz (S.E O _)) c.2 c.1) fun D σ H h => tS_dem h
          · exact psI (ps_appP S B h (show pathOf (.Name _ _) = some (_, []) from rfl) rfl (S.O O _) c.2 c.1) fun D σ H h => tS_dem h
        · exact psBad
      · exact psBad
    · exact psBad
  · split
    · rename_i hm
      subst hm
      split
      · rename_i y es hp
        split
        · rename_i i h
          split
          · rename_i c
            simp only [Bool.and_eq_true, Bool.not_eq_true'] at c
            exact psI (ps_appP S B h hp rfl (S.O O _) c.2 c.1) fun D σ H h => tS_dem h
          · exact psBad
        · exact psBad
      · exact psBad
    · exact psBad
  · exact psI (ps_drpS (S.E O _) rfl) fun D σ H h => tS_dem h
  · split
    · rename_i i h
      split
      · rename_i c
        simp only [Bool.and_eq_true] at c
        split
        · exact psI (ps_asgn S B h c.1.1 c.2) fun D σ H h => tS_dem h
        · exact psI (ps_asgO S B h c.1.1 c.2) fun D σ H h => tS_dem h
      · exact psBad
    · exact psBad
  · split
    · rename_i y es hp
      split
      · rename_i i h
        split
        · rename_i hj
          exact psI (ps_setP S B h hp (S.O O _) hj) fun D σ H h => tS_dem h
        · exact psBad
      · exact psBad
    · exact psBad
  · split
    · rename_i is st h
      split
      · rename_i c
        simp only [Bool.and_eq_true, Bool.not_eq_true'] at c
        exact psI (ps_asgT B h (S.E O _) c.1 c.2) fun D σ H h => tS_dem h
      · exact psBad
    · exact psBad
  · split
    · rename_i i h
      split
      · rename_i c
        simp only [Bool.and_eq_true] at c
        exact psI (ps_augS B h c.1.1 c.2 (S.E O _)) fun D σ H h => tS_dem h
      · exact psBad
    · exact psBad
  · split
    · rename_i i h
      exact psI (ps_fldS B h (pe_frz (S.E O _))) fun D σ H h => tS_dem h
    · exact psBad
  · split
    · rename_i fm x hx
      split
      · rename_i c
        simp only [Bool.and_eq_true, Bool.not_eq_true'] at c
        cases hxi : T.exc _ with
        | none => rw [hxi] at hx; cases hx
        | some xi =>
          rw [hxi, Option.bind_some] at hx
          cases hf : xi.fld with
          | none => rw [hf] at hx; cases hx
          | some x' =>
            rw [hf] at hx
            cases hx
            obtain ⟨C, hcl, hm, q⟩ := O.exc _ _ hxi
            obtain ⟨D, fI, fd, slf, lev, ox, iC, tI, F1, hr, hb, SC, hno⟩ := q _ hf
            exact psI (ps_raise1 B hcl ox iC tI F1 passL hr hb SC hno (O.Gl c.1.1) hm (okName_d c.1.2).1 (pe_frz (S.E O _)) c.2) fun D σ H h => tS_dem h
      · exact psBad
    · exact psBad
  · exact ps_whileS B (S.T O _) (seqs_ok hx _)
  · exact psI (ps_ifS (S.T O _) (seqs_ok hx _) (seqs_ok hx _)) fun D σ H h => tS_dem h
  · split
    · rename_i is st h
      split
      · rename_i c
        simp only [Bool.not_eq_true'] at c
        exact psI (ps_forT B h (pi_src O (S.B O) (S.E O)) (seqs_ok hx _) (folded_ok c)) fun D σ H h => tS_dem h
      · exact psBad
    · exact psBad
  · split
    · rename_i i h; exact ps_retV B h
    · exact ps_retS (S.E O _)
  · split
    · split
      · rename_i ms h
        split
        · exact psBad
        · rename_i hs
          exact psI (ps_retT S B h (by simpa using hs)) fun D σ H h => tS_dem h
      · exact psBad
    · exact psI (ps_retS (S.E O _)) fun D σ H h => tS_dem h
  · split
    · exact psI (ps_retO (S.O O _)) fun D σ H h => tS_dem h
    · exact psI (ps_retS (S.E O _)) fun D σ H h => tS_dem h
  · exact ps_retN
  · exact psBad
theorem sx_ok (S : SOk s) (B : BOk k T E X) : ∀ n st, PS X st (tS k E (sx s n T st))
  | 0, _ => psBad
  | n + 1, st => stepX_ok S (sx_ok S B n) B st
end
end PyD
end
section
set_option Elab.async false
set_option linter.all false
set_option maxRecDepth 100000
set_option maxHeartbeats 4000000
namespace PyD
open PySem PySem.Spec PyProof.Rows L2
/-! ### the answers of a def -/
theorem finD_imm {g : Sg} {s : Sl} {d : D} (h : finD g s = .ok d) (ha : g.al = false) : immO g.ret d = true := by
  unfold finD at h
  split at h
  · rename_i c
    cases h
    simp only [Bool.and_eq_true, Bool.or_eq_true] at c
    rcases c.2 with z | z
    · rw [ha] at z; cases z
    · exact z
  · cases h
theorem runD_imm {g : Sg} {N : List Str} {body : Ex} {ds : List D} {d : D} (h : runD g N body ds = .ok d) (ha : g.al = false) : immO g.ret d = true := by
  unfold runD at h
  split at h
  · cases hb : body (env0 N ds) with
    | exc x => rw [hb] at h; cases h
    | bad => rw [hb] at h; cases h
    | ok fl =>
      rw [hb] at h
      cases fl with
      | nx e => exact finD_imm h ha
      | rt s => exact finD_imm h ha
      | bk => cases h
      | ct => cases h
      | xc x e =>
        have h' : (if (x.fs.all fun p => imm p.2) = true then R.exc x else R.bad) = (R.ok d : R D) := h
        split at h' <;> cases h'
  · cases h
theorem finD_exc {g : Sg} {s : Sl} {x : Exn} : finD g s ≠ .exc x := by
  unfold finD
  split <;> exact fun z => nomatch z
theorem finF_exc {g : Sg} {fl : Fl} {x : Exn} (h : finF g fl = .exc x) : (x.fs.all fun p => imm p.2) = true := by
  cases fl with
  | nx e => exact absurd h finD_exc
  | rt e => exact absurd h finD_exc
  | bk => exact nomatch h
  | ct => exact nomatch h
  | xc y e =>
    have h' : (if (y.fs.all fun p => imm p.2) = true then R.exc y else R.bad) = (R.exc x : R D) := h
    split at h'
    · rename_i c; cases h'; exact c
    · cases h'
theorem runD_exc {g : Sg} {N : List Str} {body : Ex} {ds : List D} {x : Exn} (h : runD g N body ds = .exc x) : (x.fs.all fun p => imm p.2) = true := by
  unfold runD at h
  split at h
  · cases z : body (env0 N ds) with
    | ok fl => rw [z] at h; exact finF_exc h
    | bad => rw [z] at h; cases h
    | exc y => rw [z] at h; cases h
  · cases h
section
variable {t : Tx}
theorem fnd_mem {tab : List Df} {f : Str} {d : Df} (h : fnd tab f = some d) : d ∈ tab ∧ d.name = f := by
  unfold fnd at h
  exact ⟨List.mem_of_find?_eq_some h, by simpa using List.find?_some h⟩
theorem fndC_mem {tab : List Cf} {f : Str} {d : Cf} (h : fndC tab f = some d) : d ∈ tab ∧ d.name = f := by
  unfold fndC at h
  exact ⟨List.mem_of_find?_eq_some h, by simpa using List.find?_some h⟩
theorem runC_imm {c : Cf} {body : Ex} {ds : List D} {d : D} (h : runC c body ds = .ok d) : imm d = true := by
  unfold runC at h
  split at h
  · cases hb : body (envC c.name c.N ds) with
    | exc x => rw [hb] at h; cases h
    | bad => rw [hb] at h; cases h
    | ok fl =>
      rw [hb] at h
      cases fl with
      | nx en =>
        have h : (match (en[0]? : Option (Option Sl)) with
          | some (some (Ow.ino, D.ins c' fs)) => if decide (c' = c.name) && immF fs then R.ok (.ins c.name fs) else .bad
          | _ => .bad) = (.ok d : R D) := h
        split at h
        · split at h
          · rename_i hc
            cases h
            simp only [Bool.and_eq_true] at hc
            exact hc.2
          · cases h
        · cases h
      | rt s => cases h
      | bk => cases h
      | ct => cases h
      | xc x e =>
        have h' : (if (x.fs.all fun p => imm p.2) = true then R.exc x else R.bad) = (R.ok d : R D) := h
        split at h' <;> cases h'
  · cases h
theorem runC_exc {c : Cf} {body : Ex} {ds : List D} {x : Exn} (h : runC c body ds = .exc x) : (x.fs.all fun p => imm p.2) = true := by
  unfold runC at h
  split at h
  · cases hb : body (envC c.name c.N ds) with
    | exc x => rw [hb] at h; cases h
    | bad => rw [hb] at h; cases h
    | ok fl =>
      rw [hb] at h
      cases fl with
      | nx en =>
        have h : (match (en[0]? : Option (Option Sl)) with
          | some (some (Ow.ino, D.ins c' fs)) => if decide (c' = c.name) && immF fs then R.ok (.ins c.name fs) else .bad
          | _ => .bad) = (.exc x : R D) := h
        split at h
        · split at h <;> cases h
        · cases h
      | rt s => cases h
      | bk => cases h
      | ct => cases h
      | xc y e =>
        have h' : (if (y.fs.all fun p => imm p.2) = true then R.exc y else R.bad) = (R.exc x : R D) := h
        split at h'
        · rename_i c; cases h'; exact c
        · cases h'
  · cases h
theorem semAt_imm {n : Nat} {f : Str} {g : Sg} {ds : List D} {d : D} (hf : (fnd t.fs f).map (·.g) = some g ∨ ((fnd t.fs f).map (·.g) = none ∧ (fndC t.cs f).map (·.g) = some g)) (ha : g.al = false) (h : semAt t n f ds = .ok d) : immO g.ret d = true := by
  cases n with
  | zero => cases h
  | succ n =>
    unfold semAt at h
    rcases hf with hf | ⟨hf, hc⟩
    · cases z : fnd t.fs f with
      | none => rw [z] at hf; cases hf
      | some d' =>
        rw [z] at hf h; cases hf
        exact runD_imm h ha
    · cases z : fnd t.fs f with
      | some d' => rw [z] at hf; cases hf
      | none =>
        rw [z] at h
        cases z2 : fndC t.cs f with
        | none => rw [z2] at hc; cases hc
        | some c =>
          rw [z2] at hc h; cases hc
          show immO .sh d = true
          unfold immO
          exact runC_imm h
theorem semAt_exc {n : Nat} {f : Str} {ds : List D} {x : Exn} (h : semAt t n f ds = .exc x) : (x.fs.all fun p => imm p.2) = true := by
  cases n with
  | zero => cases h
  | succ n =>
    unfold semAt at h
    split at h
    · exact runD_exc h
    · split at h
      · exact runC_exc h
      · cases h

/-! ### a def keeps the promise that its reading makes -/
theorem envRep0 {k : Ki} {F : Hp} : ∀ {ds : List D} {vs : List V} (m : Nat), Reps k F ds vs → EnvRep k F [] (ds.map (fun d => some (.sh, d)) ++ List.replicate m none) (vs.map some ++ List.replicate m none)
  | _, _, m, .nil => by
    induction m with
    | zero => exact .nil
    | succ m ih => exact .un ih
  | _, _, m, .cons h t => .val (O := []) (.sh h) (envRep0 m t)
theorem bn_list {x : Str} (h : bname x = true) : x ∈ (["len", "abs", "int", "tuple", "list", "set", "sorted", "max", "min", "sum", "isinstance", "range", "bool", "str"] : List Str) := by
  unfold bname blOf tyOf at h
  simp only [Bool.or_eq_true, decide_eq_true_eq] at h
  simp only [List.mem_cons, List.not_mem_nil, or_false]
  rcases h with ((h | h) | h) | h
  · repeat' split at h
    all_goals first | (simp [*]; done) | cases h
  · simp [h]
  · simp [h]
  · repeat' split at h
    all_goals first | (simp [*]; done) | cases h
/-! the instance that is made is a ghost -/
def Ki.at (k : Ki) (m : V) : Ki := { k with me := m }
mutual
theorem Rep.me {k : Ki} {m : V} {F : Hp} : ∀ {d : D} {v : V}, Rep k F d v → Rep (k.at m) F d v
  | _, _, .non => .non
  | _, _, .bl b => .bl b
  | _, _, .int i => .int i
  | _, _, .str s => .str s
  | _, _, .tup h r => .tup h (Reps.me r)
  | _, _, .lst h r => .lst h (Reps.me r)
  | _, _, .iset h a b => .iset h a b
  | _, _, .ins hc hk h r => .ins hc hk h (RepF.me r)
theorem Reps.me {k : Ki} {m : V} {F : Hp} : ∀ {d : List D} {v : List V}, Reps k F d v → Reps (k.at m) F d v
  | _, _, .nil => .nil
  | _, _, .cons h t => .cons (Rep.me h) (Reps.me t)
theorem RepF.me {k : Ki} {m : V} {F : Hp} : ∀ {d : List (Str × D)} {v : List (Str × V)}, RepF k F d v → RepF (k.at m) F d v
  | _, _, .nil => .nil
  | _, _, .cons h t => .cons (Rep.me h) (RepF.me t)
end
theorem Rep.unme {k : Ki} {m : V} {F : Hp} {d : D} {v : V} (h : Rep (k.at m) F d v) : Rep k F d v := Rep.me (k := k.at m) (m := k.me) h
theorem RepF.unme {k : Ki} {m : V} {F : Hp} {d : List (Str × D)} {v : List (Str × V)} (h : RepF (k.at m) F d v) : RepF k F d v := RepF.me (k := k.at m) (m := k.me) h
theorem RepX.unme {k : Ki} {m : V} {F : Hp} {x : Exn} {cls : Value} {dd : Option Addr} (h : RepX (k.at m) F x cls dd) : RepX k F x cls dd := by
  obtain ⟨C, h1, h2, h3⟩ := h
  refine ⟨C, h1, h2, ?_⟩
  rcases h3 with h3 | ⟨d, vfs, a, b, c⟩
  · exact .inl h3
  · exact .inr ⟨d, vfs, a, b, c.unme⟩
structure Fx (P : Program) (w : World) (K : PySem.W.Frag) (mg : Str → Option Value) (k : Ki) (t : Tx) : Prop where
  hK : k.K = K
  hw : k.w = w
  fn : ∀ d ∈ t.fs, ∃ fa fd qual, FunD K d.name qual (L2.defArgs d.st) (L2.defBody d.st) (L2.defScope d.st) [] [] fa fd ∧ mg d.name = some (.ref fa) ∧ BindsG K fd d.ps d.g
  sc : ∀ d ∈ t.fs, FnScope d.N d.ps (L2.defScope d.st)
  n : ∀ d ∈ t.fs, d.ps.length = d.g.n
  cn : ∀ c ∈ t.cs, ∃ C fa fd qual, k.cl c.name = some C ∧ Mk K C fa ∧ FunD K "__init__" qual (L2.defArgs c.st) (L2.defBody c.st) (L2.defScope c.st) [] [] fa fd ∧ mg c.name = some (.ref C) ∧ L2.Binds K fd c.ps [] ∧ Cls K C
  csc : ∀ c ∈ t.cs, FnScope c.N c.ps (L2.defScope c.st)
  cnn : ∀ c ∈ t.cs, c.ps.length = c.n + 1
  blt : ∀ x, bname x = true → mg x = none
  cls : ∀ c ci, t.m.k c = some ci → ∃ C, k.cl c = some C ∧ Cls k.K C ∧ ∀ f ∈ ci.no, NoAttr k.K C f
  exc : ∀ c xi, t.m.x c = some xi → ∃ C, k.cl c = some C ∧ mg c = some (.ref C) ∧ ∀ x, xi.fld = some x → ∃ D fI fd slf, OexC K C ∧ PySem.W.findIn K (.ref C) "__init__" = some (some (.ref fI)) ∧ PySem.W.typeIn K (.ref fI) = some (.type "function") ∧
    (∀ base, FnOk P w K mg base (L2.CX P w) 1 fI fd [slf, x] (spX1 K D xi.fm x)) ∧ L2.Binds K fd [slf, x] [] ∧ SupC K C D ∧ PySem.W.findIn K (.ref C) x = some none
  con : ∀ x d, t.m.c x = some d → ∃ u v, mg x = some u ∧ L2.RelV v u ∧ ∀ F, Rep k F d v
theorem Fx.me {P : Program} {w : World} {K : PySem.W.Frag} {mg : Str → Option Value} {k : Ki} {t : Tx} (X : Fx P w K mg k t) (m : V) : Fx P w K mg (k.at m) t :=
  ⟨X.hK, X.hw, X.fn, X.sc, X.n, X.cn, X.csc, X.cnn, X.blt, X.cls, X.exc, fun x d h => by
    obtain ⟨u, v, h1, h2, h3⟩ := X.con x d h
    exact ⟨u, v, h1, h2, fun F => (h3 F).me⟩⟩
theorem spOf_len {k : Ki} {sem : List D → R D} {g : Sg} {vs : List V} {H : Hp} {Q : VK} {E : XK} (h : spOf k sem g vs H Q E) : vs.length = g.n := h.1
/-- what a text's defs promise at a level -/
structure Says (P : Program) (w : World) (K : PySem.W.Frag) (mg : Str → Option Value) (base : Heap) (k : Ki) (t : Tx) (lev : Nat) : Prop where
  f : ∀ (f : Str) (d : Df), fnd t.fs f = some d → ∃ fa fd, (∃ qual, FunD K d.name qual (L2.defArgs d.st) (L2.defBody d.st) (L2.defScope d.st) [] [] fa fd) ∧ mg f = some (.ref fa) ∧ PySem.W.keepIn K (.ref fa) = true ∧ BindsG K fd d.ps d.g ∧ FnOk P w K mg base (L2.CX P w) (2 * lev + 2) fa fd d.ps (spOf k (semAt t lev f) d.g)
  c : ∀ (c : Str) (d : Cf), fnd t.fs c = none → fndC t.cs c = some d → ∃ C fa fd, k.cl c = some C ∧ Mk K C fa ∧ mg c = some (.ref C) ∧ L2.Binds K fd d.ps [] ∧ FnOk P w K mg base (L2.CX P w) (2 * lev + 2) fa fd d.ps (spI k C (semAt t lev c) d.g)
section
variable {P : Program} {w : World} {K : PySem.W.Frag} {mg : Str → Option Value} {base : Heap} {k : Ki}
/-- the context of a body -/
theorem body_ok (X : Fx P w K mg k t) {lev : Nat} (ih : Says P w K mg base k t lev) {N ps : List Str} {sc : Scope} {qual : Str} {fa : Addr} {cdv : Value} {A : Around} {outer : List Env} {s : Shared} {H : Hp} {E : XK} {dp : List Nat} {ret : Ow} (S : FnScope N ps sc) (hr : Room (2 * lev + 3) (A.deeper (envOfC qual sc s.heap.objs.size fa cdv))) :
    BOk k ⟨N, sc, fun f => (fnd t.fs f).map (·.g), semAt t lev, t.m.c, t.m.k, t.m.x, fun f => (fndC t.cs f).map (·.g), dp, ret⟩ (fun _ => E) (cxOf (L2.CX P w) P w K mg base N qual sc fa cdv A outer s H E) := by
  have tk : Takes (cxOf (L2.CX P w) P w K mg base N qual sc fa cdv A outer s H E) (fun cls dd _ H' => E cls dd H') := takes_of rfl rfl rfl rfl
  have O : XOk k ⟨N, sc, fun f => (fnd t.fs f).map (·.g), semAt t lev, t.m.c, t.m.k, t.m.x, fun f => (fndC t.cs f).map (·.g), dp, ret⟩ (fun _ => E) (cxOf (L2.CX P w) P w K mg base N qual sc fa cdv A outer s H E) := by
    refine ⟨rfl, S.nd, rfl, X.hK.symm, X.hw.symm, ?_, fun x h => ?_, fun x h => ?_, fun x h => ?_, fun x h => h, X.blt, fun f' g' hg => ?_, fun c' g' h0 hg => ?_, X.con, X.cls, (fun c xi h => by
      obtain ⟨C, hcl, hm, q⟩ := X.exc c xi h
      exact ⟨C, hcl, hm, fun x hx => by
        obtain ⟨D, fI, fd, slf, ox, iC, tI, F1, hb, SC, hno⟩ := q x hx
        exact ⟨D, fI, fd, slf, 1, ox, iC, tI, F1 base, hr.mono (by omega), hb, SC, hno⟩⟩), fun σ => passAt tk σ, fun f' g' ds' d' hg ha h => semAt_imm (t := t) hg ha h, fun f' g' ds' x hg h => semAt_exc h⟩
    · have := hr.un
      show (A.deeper _).units + 65 < cLine
      omega
    · have h : visB sc x = true := h
      unfold visB at h
      show Vis sc x
      split at h
      · exact .inl (by assumption)
      · exact .inr (.inl (by assumption))
      · exact .inr (.inr (by assumption))
      · cases h
    · have h : locB sc x = true := h
      unfold locB at h
      show L2.Loc sc x
      split at h
      · exact .inl (by assumption)
      · exact .inr (by assumption)
      · cases h
    · have h : glB sc x = true := h
      unfold glB at h
      show sc.names.lookup x = _
      split at h
      · assumption
      · cases h
    · have hg : (fnd t.fs f').map (·.g) = some g' := hg
      cases hq : fnd t.fs f' with
      | none => rw [hq] at hg; cases hg
      | some d' =>
        rw [hq] at hg; cases hg
        obtain ⟨fa', fd', _, h1, h2, h3, h4⟩ := ih.f f' d' hq
        exact ⟨⟨fa', fd', d'.ps, 2 * lev + 2, h4, hr.mono (by omega), h1, h2, h3⟩⟩
    · have h0 : (fnd t.fs c').map (·.g) = none := h0
      have hg : (fndC t.cs c').map (·.g) = some g' := hg
      have h0' : fnd t.fs c' = none := by
        cases hq : fnd t.fs c' with
        | none => rfl
        | some d' => rw [hq] at h0; cases h0
      cases hq : fndC t.cs c' with
      | none => rw [hq] at hg; cases hg
      | some d' =>
        rw [hq] at hg; cases hg
        obtain ⟨C, fa', fd', hcl, h1, h2, h3, h4⟩ := ih.c c' d' h0' hq
        exact ⟨⟨C, fa', fd', d'.ps, 2 * lev + 2, h1, h4, hr, h2, h3⟩, rfl, rfl, rfl⟩
  exact ⟨O, rfl, S.kind, fun _ => rfl, passes_of rfl, tk⟩
theorem defs_ok : ∀ (lev : Nat) (k : Ki), Fx P w K mg k t → Says P w K mg base k t lev := by
  intro lev
  induction lev with
  | zero =>
    intro k X
    refine ⟨fun f d hf => ?_, fun c d h0 hf => ?_⟩
    · obtain ⟨hd, rfl⟩ := fnd_mem hf
      obtain ⟨fa, fd, qual, Fd, hm, hb⟩ := X.fn d hd
      exact ⟨fa, fd, ⟨qual, Fd⟩, hm, Fd.kp, hb, ⟨fun vs H Q E h => (spOf_len h).trans (X.n d hd).symm, fun A outer s H args us vs Q E _ _ _ _ h => by
        obtain ⟨_, F, ds, _, _, z⟩ := h
        exact z.elim⟩⟩
    · obtain ⟨hd, rfl⟩ := fndC_mem hf
      obtain ⟨C, fa, fd, qual, hcl, M, Fd, hm, hb, _⟩ := X.cn d hd
      refine ⟨C, fa, fd, hcl, M, hm, hb, ⟨fun us H Q E h => ?_, fun A outer s H args us vs Q E _ _ _ _ h => ?_⟩⟩
      · obtain ⟨vs, x, dx, H1, rfl, _, _, _, _, l, _⟩ := h
        rw [List.length_cons, l, X.cnn d hd]
      · obtain ⟨_, _, _, _, _, _, _, _, _, _, F, ds, _, _, z⟩ := h
        exact z.elim
  | succ lev ih =>
    intro k X
    refine ⟨fun f d hf => ?_, fun c d h0 hf => ?_⟩
    · obtain ⟨hd, rfl⟩ := fnd_mem hf
      obtain ⟨fa, fd, qual, Fd, hm, hb⟩ := X.fn d hd
      refine ⟨fa, fd, ⟨qual, Fd⟩, hm, Fd.kp, hb, Fd.ok (k := 2 * lev + 3) (X.sc d hd) (fun vs H Q E h => (spOf_len h).trans (X.n d hd).symm) fun cdv A outer s H vs Q E hr h => ?_⟩
      obtain ⟨hl, F, ds, sf, rep, z⟩ := h
      have S := X.sc d hd
      have B := body_ok X (ih k X) (qual := qual) (fa := fa) (cdv := cdv) (outer := outer) (s := s) (H := H) (E := E) (dp := d.dp) (ret := d.g.ret) S hr
      refine ⟨_, seqs_ok (sx_ok (sm_ok fuel) B fuel) (L2.defBody d.st), F, H, F, [], env0 d.N ds, ?_, Ext.refl sf, ?_⟩
      · have e := rep.length
        unfold env0 L2.start
        rw [e]
        exact envRep0 _ rep
      · have z' : match runD d.g d.N (bodyOf (tbOf t (semAt t lev) d) d.st) ds with
            | .ok d' => ∀ v F' H' O, Ext F H F' H' O → RepO k F' d.g.ret O d' v → Q v H'
            | .exc x => ∀ F' H' cls dd, Ext F H F' H' [] → RepX k F' x cls dd → E cls dd H'
            | .bad => False := by
          have q := z
          unfold semAt at q
          rw [hf] at q
          exact q
        have hlen : ds.length = d.g.n := by rw [← rep.length]; exact hl
        unfold runD at z'
        rw [if_pos hlen] at z'
        have fin : ∀ (s' : Sl) (v : V) (F' H' : Hp) (O' : OL), (match finD d.g s' with
            | .ok d' => ∀ v F' H' O, Ext F H F' H' O → RepO k F' d.g.ret O d' v → Q v H'
            | .exc x => ∀ F' H' cls dd, Ext F H F' H' [] → RepX k F' x cls dd → E cls dd H'
            | .bad => False) → Ext F H F' H' O' → RepO k F' s'.1 O' s'.2 v → Q v H' := fun s' v F' H' O' q e r => by
          unfold finD at q
          split at q
          · rename_i d' hd'
            split at hd'
            · rename_i c
              cases hd'
              simp only [Bool.and_eq_true, Bool.or_eq_true] at c
              rcases c.1 with c1 | c1
              · have er : d.g.ret = .sh := by
                  cases hret : d.g.ret with
                  | sh => rfl
                  | _ => rw [hret] at c1; cases c1
                rw [er] at q
                have e' : Ext F H F' H' (O' ++ []) := by rw [List.append_nil]; exact e
                exact q v _ H' [] e'.freeze (.sh (r.frz (frz_same fun p hp => (e.own p hp).2.2) fun p hp => frz_at e.nd hp))
              · rw [← owEq_ok c1] at q
                exact q v F' H' O' e r
            · cases hd'
          · rename_i hd'
            split at hd' <;> cases hd'
          · exact q.elim
        show OutS k F H _ (fun _ => E) (bodyOf (tbOf t (semAt t lev) d) d.st (env0 d.N ds))
        cases hb2 : bodyOf (tbOf t (semAt t lev) d) d.st (env0 d.N ds) with
        | bad => rw [hb2] at z'; exact z'
        | exc x => rw [hb2] at z'; exact z'
        | ok fl =>
          rw [hb2] at z'
          cases fl with
          | nx env => exact fun σ' F' H' O' r e => fin (.sh, .non) .non F' H' [] z' (e.sub (fun _ z => nomatch z) List.nodup_nil) (.sh .non)
          | rt s' => exact fun v F' H' O' e r => fin s' v F' H' O' z' e r
          | bk => exact z'.elim
          | ct => exact z'.elim
          | xc x env =>
            have z2 : match (if (x.fs.all fun p => imm p.2) = true then R.exc x else R.bad : R D) with
              | .ok d' => ∀ v F' H' O, Ext F H F' H' O → RepO k F' d.g.ret O d' v → Q v H'
              | .exc x => ∀ F' H' cls dd, Ext F H F' H' [] → RepX k F' x cls dd → E cls dd H'
              | .bad => False := z'
            by_cases c : (x.fs.all fun p => imm p.2) = true
            · rw [if_pos c] at z2
              exact fun σ' F' H' O' cls dd r e rx => z2 F' H' cls dd (e.sub (fun _ z => nomatch z) List.nodup_nil) rx
            · rw [if_neg c] at z2
              exact z2.elim
    · obtain ⟨hd, rfl⟩ := fndC_mem hf
      obtain ⟨C, fa, fd, qual, hcl, M, Fd, hm, hb, hCls⟩ := X.cn d hd
      refine ⟨C, fa, fd, hcl, M, hm, hb, Fd.ok (k := 2 * lev + 3) (X.csc d hd) (fun us H Q E h => ?_) fun cdv A outer s H us Q E hr h => ?_⟩
      · obtain ⟨vs, x, dx, H1, rfl, _, _, _, _, l, _⟩ := h
        rw [List.length_cons, l, X.cnn d hd]
      · obtain ⟨vs, x, dx, H1, rfl, rfl, n1, n2, ne, hl, F, ds, sf, rep, z⟩ := h
        have S := X.csc d hd
        have X' := X.me (.ref x)
        have B := body_ok X' (ih _ X') (qual := qual) (fa := fa) (cdv := cdv) (outer := outer) (s := s) (H := upd (upd H1 dx (.own x)) x (.ins C dx [])) (E := E) (dp := d.dp) (ret := .sh) S hr
        have sf2 : Same F (upd H1 dx (.own x)) := fun a o e => by
          have := sf _ _ e
          rw [upd_ne (fun w => by rw [w, n2] at this; cases this)]
          exact this
        have n1' : upd H1 dx (.own x) x = none := by rw [upd_ne (fun w => ne w.symm)]; exact n1
        have ext : Ext F H1 F (upd (upd H1 dx (.own x)) x (.ins C dx [])) [(x, .ins C dx []), (dx, .own x)] := (Ext.newO (o := HO.own x) sf n2).trans (Ext.newO (o := HO.ins C dx []) sf2 n1')
        have hlen : ds.length = d.n := by rw [← rep.length]; exact hl
        refine ⟨_, seqs_ok (sx_ok (sm_ok fuel) B fuel) (L2.defBody d.st), F, H1, F, _, envC d.name d.N ds, ?_, ext, ?_⟩
        · have e := rep.length
          have er : EnvRep (k.at (.ref x)) F [] (env0 (d.N.drop 1) ds) (vs.map some ++ List.replicate ((d.N.drop 1).length - ds.length) none) := envRep0 _ (Reps.me rep)
          have i0 : RepO (k.at (.ref x)) F .ino [(x, .ins C dx []), (dx, .own x)] (.ins d.name []) (.ref x) := .ino hcl ⟨by show Cls k.K C; rw [X.hK]; exact hCls, fun p hp => nomatch hp⟩ rfl .nil
          have z := EnvRep.val i0 er
          rw [List.append_nil] at z
          unfold envC L2.start
          have e3 : d.N.length - (V.ref x :: vs).length = (d.N.drop 1).length - ds.length := by
            rw [List.length_cons, List.length_drop, e]
            omega
          rw [e3]
          exact z
        · have z' : match runC d (bodyOf (tbC t (semAt t lev) d) d.st) ds with
              | .ok d' => ∀ F' H', Ext F H1 F' H' [] → Rep k F' d' (.ref x) → Q .non H'
              | .exc y => ∀ F' H' cls dd, Ext F H1 F' H' [] → RepX k F' y cls dd → E cls dd H'
              | .bad => False := by
            have q := z
            unfold semAt at q
            rw [h0, hf] at q
            exact q
          unfold runC at z'
          rw [if_pos hlen] at z'
          show OutS (k.at (.ref x)) F H1 _ (fun _ => E) (bodyOf (tbC t (semAt t lev) d) d.st (envC d.name d.N ds))
          cases hb2 : bodyOf (tbC t (semAt t lev) d) d.st (envC d.name d.N ds) with
          | bad => rw [hb2] at z'; exact z'
          | exc y => rw [hb2] at z'; exact z'
          | ok fl =>
            rw [hb2] at z'
            cases fl with
            | nx env =>
              have z2 : match (match (env[0]? : Option (Option Sl)) with
                | some (some (Ow.ino, D.ins c' fs)) => if decide (c' = d.name) && immF fs then (R.ok (D.ins d.name fs) : R D) else R.bad
                | _ => R.bad) with
                | .ok d' => ∀ F' H', Ext F H1 F' H' [] → Rep k F' d' (.ref x) → Q .non H'
                | .exc y => ∀ F' H' cls dd, Ext F H1 F' H' [] → RepX k F' y cls dd → E cls dd H'
                | .bad => False := z'
              intro σ' F' H' O' r e
              split at z2
              · rename_i d' hd'
                split at hd'
                · rename_i c' fs he
                  split at hd'
                  · rename_i cc
                    simp only [Bool.and_eq_true, decide_eq_true_eq] at cc
                    obtain ⟨rfl, _⟩ := cc
                    cases hd'
                    obtain ⟨A1, B1, C1, v, e1, e2, rv, _⟩ := r.slot he
                    have e' : Ext F H1 F' H' (O' ++ []) := by rw [List.append_nil]; exact e
                    refine z2 _ H' e'.freeze ?_
                    have fz : Rep (k.at (.ref x)) (frz F' O') (.ins d.name fs) v := rv.frz (frz_same fun p hp => (e.own p hp).2.2) fun p hp => frz_at e.nd (by rw [e1]; exact List.mem_append_right _ (List.mem_append_left _ hp))
                    cases rv with
                    | ino hc hk hm rf =>
                      have hm : V.ref x = _ := hm
                      rw [hm]
                      exact fz.unme
                  · cases hd'
                · cases hd'
              · rename_i hd'
                split at hd'
                · split at hd' <;> cases hd'
                · cases hd'
              · exact z2.elim
            | rt s' => exact z'.elim
            | bk => exact z'.elim
            | ct => exact z'.elim
            | xc y env =>
              have z2 : match (if (y.fs.all fun p => imm p.2) = true then R.exc y else R.bad : R D) with
                | .ok d' => ∀ F' H', Ext F H1 F' H' [] → Rep k F' d' (.ref x) → Q .non H'
                | .exc y => ∀ F' H' cls dd, Ext F H1 F' H' [] → RepX k F' y cls dd → E cls dd H'
                | .bad => False := z'
              by_cases c : (y.fs.all fun p => imm p.2) = true
              · rw [if_pos c] at z2
                exact fun σ' F' H' O' cls dd r e rx => z2 F' H' cls dd (e.sub (fun _ z => nomatch z) List.nodup_nil) rx.unme
              · rw [if_neg c] at z2
                exact z2.elim
end
/-! ### the end of a law -/
theorem walkD {l : PySem.W.OpenLaw} {q : Program} {loose : List Str} {XP : (Str → Option Value) → Heap → Prop} {YP : World → Heap → Prop} {d : DefRec} {t : Tx} {lev : Nat} {dl : Df} (hn : l.most = some 63) (hdf : d.params.defaults = []) (hr : Room (2 * lev + 2) callerA)
    (hname : d.name = "law") (hl : fnd t.fs "law" = some dl) (hps : dl.ps = [("script" : Str)]) (hg : dl.g.ret = .sh) (hgn : dl.g.n = 1)
    (F : ∀ (w : World) (mg : Str → Option Value) (h : Heap), YP w h → h.Ns mainGlobals mg → ∃ (K : PySem.W.Frag) (k : Ki), K.In h ∧ Fx l.prog w K mg k t)
    (hb : ∀ (kV doc pm : Value) (an : Option Addr) (cdv ct : Value) (qual : Str) (us : List Value), us.length = dl.ps.length → bindArgs (PySem.W.fnOf dl.name qual (L2.defArgs dl.st) (L2.defBody dl.st) (L2.defScope dl.st) .none kV doc pm an cdv ct) ⟨us, []⟩ = pure (dl.ps.zip us))
    (main : ∀ ns : List Int, ns.length ≤ 63 → semAt t lev "law" [.lst (ns.map D.int)] = .ok (.bl true)) :
    PySem.W.WalkO q loose XP YP l.row.toRowW d [] (fun f vs => PySem.call f vs) := by
  refine Att.attach_call hn hdf fun w s₀ s₁ mg mb fa o pm cd doc a vs ns G Y ho hd hcd hmg hobj hints hlen hg' => ?_
  obtain ⟨K, k, KX, X⟩ := F w mg _ Y G.T.g
  rw [hname] at hmg
  -- the def that stands there
  obtain ⟨fa', fd, ⟨qual, Fd⟩, h1, h2, h3, _⟩ := (defs_ok (base := s₁.heap) lev k X).f "law" dl hl
  rw [hmg] at h1
  cases h1
  have bA := FunD.bindsA (ps := dl.ps) Fd fun kV doc pm an cdv ct us hl => hb kV doc pm an cdv ct qual us hl
  refine law_call (CX := L2.CX l.prog w) (sp := spOf k (semAt t lev "law") dl.g) (x := "script") (fd := fd) KX G.T.g G.T.b G.T.builtins G.T.nolimit hg' hobj hints (Nat.le_trans hlen (by decide)) hr (fun base kb gb => ?_) (fun s u => ?_) (fun H hO hS => ?_) (fun H e s' c => ?_)
  · obtain ⟨fa2, fd2, ⟨qual2, Fd2⟩, e1, _, _, ok⟩ := (defs_ok (P := l.prog) (base := base) lev k X).f "law" dl hl
    rw [hmg] at e1
    cases e1
    have : fd2 = fd := by
      obtain ⟨oc, od, dV, kV, doc, pm, an, cdv, ct, osl, _, lk, _⟩ := Fd.ex
      obtain ⟨oc2, od2, dV2, kV2, doc2, pm2, an2, cdv2, ct2, osl2, _, lk2, _⟩ := Fd2.ex
      rw [lk] at lk2
      cases lk2
      rfl
    subst this
    rw [hps] at ok
    exact ok
  · have z := bA s [u] (by rw [hps]; rfl)
    rw [hps] at z
    exact z
  · refine ⟨by rw [hgn]; rfl, H, [.lst (ns.map D.int)], Same.refl _, .cons (.lst (by rw [X.hK]; exact hS) (reps_of_ints ns)) .nil, ?_⟩
    rw [main ns hlen]
    intro v F' H' O _ r
    rw [hg] at r
    cases r with
    | sh r => cases r; rfl
  · obtain ⟨_, _, _, _, _, _, _, _, _, _, _, _, z⟩ := c
    exact z
end
end PyD
end
section
set_option Elab.async false
set_option linter.all false
set_option maxRecDepth 100000
namespace PyD
open PySem PySem.Spec PyProof.Rows L2
/-! ### the same text as combinators of values -/
abbrev litE (d : D) : Ev := fun _ => .ok (.sh, d)
abbrev subS (a b : Ev) : Ev := fun env => (subE a b env).bind Sl.asSh
def evsE : List Ev → DEnv → R (List Sl)
  | [], _ => .ok []
  | e :: es, env => (e env).bind fun x => (evsE es env).bind fun xs => .ok (x :: xs)
def lstV (es : List Ev) : Ev := fun env => (evsE es env).bind fun xs => if xs.all (·.1.isSh) && decide (xs.length ≤ sizeLine) then .ok (.lst .sh, .lst (xs.map (·.2))) else .bad
def lstW (es : List Ev) : Ev := fun env => (evsE es env).bind fun xs => (R.need (oneOw xs)).bind fun o => if decide (xs.length ≤ sizeLine) then .ok (.lst o, .lst (xs.map (·.2))) else .bad
def tupV (es : List Ev) : Ev := fun env => (evsE es env).bind fun xs => if xs.all (·.1.isSh) && decide (xs.length ≤ sizeLine) then .ok (.sh, .tup (xs.map (·.2))) else .bad
def callV (c : Str → List D → R D) (f : Str) (g : Sg) (es : List Ev) : Ev := fun env => (evsE es env).bind fun xs => if decide (xs.length = g.n) && okArgs g xs then (c f (xs.map (·.2))).bind fun d => .ok (g.ret, d) else .bad
abbrev yesT : DEnv → R Bool := fun _ => .ok true
def seqV : List Ex → Ex
  | [], env => .ok (.nx env)
  | s :: r, env => (s env).bind fun fl => match fl with
    | .nx env' => seqV r env'
    | fl => .ok fl
abbrev nopS : Ex := fun env => .ok (.nx env)
abbrev brkS : Ex := fun env => .ok (.bk env)
abbrev cntS : Ex := fun env => .ok (.ct env)
end PyD
end
section
set_option Elab.async false
set_option linter.all false
set_option maxRecDepth 100000
set_option maxHeartbeats 1000000
namespace PyD
open PySem PySem.Spec PyProof.Rows L2
/-! ### the head of a text: its facts -/
def bnames : List Str := ["len", "abs", "int", "tuple", "list", "set", "sorted", "max", "min", "sum", "isinstance", "range", "bool", "str"]
def dOf (d : Df) : He.DefD := ⟨(d.name, none), d.name, d.name, L2.defArgs d.st, L2.defBody d.st, L2.defScope d.st, [], []⟩
def cOf (d : Cf) : He.DefD := ⟨(d.name, some "__init__"), "__init__", d.name ++ ".__init__", L2.defArgs d.st, L2.defBody d.st, L2.defScope d.st, [], []⟩
def fnOf (t : Tx) : List He.DefD := t.fs.map dOf ++ t.cs.map cOf
/-- names of constants, fields of classes -/
structure Hd where
  cons : List (Str × Int)
  flds : List (Str × List Str)
def faOf (t : Tx) (H : Hd) : List He.Fa := t.fs.map (fun d => .glo d.name) ++ bnames.map He.Fa.free ++ H.cons.map (fun p => .int p.1 p.2) ++ H.flds.flatMap (fun p => .glo p.1 :: .cls p.1 :: p.2.map (He.Fa.noat p.1)) ++ t.cs.map (fun c => .mkr c.name)
def Hd.md (H : Hd) : Md := ⟨fun x => (H.cons.lookup x).map D.int, fun x => (H.flds.lookup x).map Ci.mk, fun _ => none⟩
def kiOf (K : PySem.W.Frag) (w : World) (H : Hd) : Ki := ⟨K, w, fun c => (H.flds.lookup c).map fun _ => He.ga K c, .non⟩
/-- the facts of a text and some more, read off the heap that its top leaves -/
def hookP (n : Nat) (fa : List He.Fa) (fn : List He.DefD) (ex : PySem.W.Frag → Bool) : PySem.W.Hook where
  α := He.AlD × Bool
  obs := fun s => (He.obsDG n fa fn s.heap.get?, ex (He.frG s.heap.get? (He.asD s.heap.get? n)))
  val := fun _ => (He.valD fn, true)
  says := fun _ h => ∃ K : PySem.W.Frag, K.In h ∧ He.SaysD fa fn K ∧ ex K = true
  of := fun _ s e => ⟨He.frG s.heap.get? (He.asD s.heap.get? n), He.frG_in, congrArg (fun z : He.AlD × Bool => z.1) e, congrArg (fun z : He.AlD × Bool => z.2) e⟩
  keeps := fun _ _ _ ⟨K, hK, c⟩ k => ⟨K, PySem.W.Frag.In.keeps hK k, c⟩
def obsP (n : Nat) (fa : List He.Fa) (fn : List He.DefD) (ex : PySem.W.Frag → Bool) (g : Addr → Option Obj) : He.AlD × Bool := (He.obsDG n fa fn g, ex (He.frG g (He.asD g n)))
theorem obsP_eq {n : Nat} {fa : List He.Fa} {fn : List He.DefD} {ex : PySem.W.Frag → Bool} {g : Addr → Option Obj} {s : Shared} (h : ∀ a, g a = s.heap.get? a) : obsP n fa fn ex g = (hookP n fa fn ex).obs s := by
  have e : g = s.heap.get? := funext h
  rw [e] <;> rfl
theorem fact_mem {fa : List He.Fa} {fn : List He.DefD} {K : PySem.W.Frag} (c : He.SaysD fa fn K) {f : He.Fa} (h : f ∈ fa) : f.ok K = true := by
  obtain ⟨i, hi, e⟩ := List.mem_iff_getElem.1 h
  exact c.fact i (by rw [List.getElem?_eq_getElem hi, e])
theorem def_mem {fa : List He.Fa} {fn : List He.DefD} {K : PySem.W.Frag} (c : He.SaysD fa fn K) {d : He.DefD} (h : d ∈ fn) : ∃ fd, FunD K d.name d.qual d.params d.body d.scope (d.dvs K) (d.kws K) (He.fAd K d.at_) fd := by
  obtain ⟨i, hi, e⟩ := List.mem_iff_getElem.1 h
  exact c.def_ i (by rw [List.getElem?_eq_getElem hi, e])
/-- how a def's arguments are bound -/
def BindF (d : Df) : Prop :=
  (d.g.kw = [] → ∀ (qual : Str) (kV doc pm : Value) (an : Option Addr) (cdv ct : Value) (us : List Value), us.length = d.ps.length → bindArgs (PySem.W.fnOf d.name qual (L2.defArgs d.st) (L2.defBody d.st) (L2.defScope d.st) .none kV doc pm an cdv ct) ⟨us, []⟩ = pure (d.ps.zip us)) ∧
  (d.g.kw ≠ [] → d.g.kw.length ≤ d.g.n ∧ ∀ (qual : Str) (kV doc pm : Value) (an : Option Addr) (cdv ct : Value) (us ws : List Value), us.length = d.g.n - d.g.kw.length → ws.length = d.g.kw.length → bindArgs (PySem.W.fnOf d.name qual (L2.defArgs d.st) (L2.defBody d.st) (L2.defScope d.st) .none kV doc pm an cdv ct) ⟨us, d.g.kw.zip ws⟩ = pure (d.ps.zip (us ++ ws)))
theorem bindsG_of {K : PySem.W.Frag} {d : Df} {qual : Str} {fa : Addr} {fd : FuncData} (F : FunD K d.name qual (L2.defArgs d.st) (L2.defBody d.st) (L2.defScope d.st) [] [] fa fd) (h : BindF d) : BindsG K fd d.ps d.g := by
  refine ⟨fun e => F.bindsN fun kV doc pm an cdv ct us hl => h.1 e qual kV doc pm an cdv ct us hl, fun e => ⟨(h.2 e).1, ?_⟩⟩
  obtain ⟨oc, od, dV, kV, doc, pm, an, cdv, ct, osl, rfl, lk, hcd, hD, hK⟩ := F.ex
  rcases hD with ⟨_, rfl⟩ | ⟨e, _⟩
  · exact ⟨fun s us ws _ l1 l2 => .of_eq ((h.2 e).2 qual kV doc pm an cdv ct us ws l1 l2), fun r1 r2 => r1.append r2⟩
  · exact absurd rfl e
theorem lookup_memL {α : Type} {x : Str} {d : α} {l : List (Str × α)} (h : l.lookup x = some d) : (x, d) ∈ l := lookup_memS h
theorem Fx_of {P : Program} {w : World} {K : PySem.W.Frag} {mg : Str → Option Value} {h : Heap} {t : Tx} {H : Hd} (KX : K.In h) (G : h.Ns mainGlobals mg) (c : He.SaysD (faOf t H) (fnOf t) K) (hm : t.m = H.md)
    (hb : ∀ d ∈ t.fs, BindF d) (hsc : ∀ d ∈ t.fs, FnScope d.N d.ps (L2.defScope d.st)) (hn : ∀ d ∈ t.fs, d.ps.length = d.g.n)
    (hbc : ∀ d ∈ t.cs, ∀ (qual : Str) (kV doc pm : Value) (an : Option Addr) (cdv ct : Value) (us : List Value), us.length = d.ps.length → bindArgs (PySem.W.fnOf "__init__" qual (L2.defArgs d.st) (L2.defBody d.st) (L2.defScope d.st) .none kV doc pm an cdv ct) ⟨us, []⟩ = pure (d.ps.zip us))
    (hscc : ∀ d ∈ t.cs, FnScope d.N d.ps (L2.defScope d.st)) (hnc : ∀ d ∈ t.cs, d.ps.length = d.n + 1) (hfc : ∀ d ∈ t.cs, ∃ fs, (d.name, fs) ∈ H.flds) : Fx P w K mg (kiOf K w H) t where
  hK := rfl
  hw := rfl
  fn := fun d hd => by
    obtain ⟨fd, F⟩ := def_mem c (d := dOf d) (List.mem_append_left _ (List.mem_map_of_mem hd))
    have m := He.glo_ok KX G (fact_mem c (f := .glo d.name) (List.mem_append_left _ (List.mem_append_left _ (List.mem_append_left _ (List.mem_append_left _ (List.mem_map.2 ⟨d, hd, rfl⟩))))))
    exact ⟨_, fd, d.name, F, m, bindsG_of (d := d) F (hb d hd)⟩
  sc := hsc
  n := hn
  cn := fun d hd => by
    obtain ⟨fd, F⟩ := def_mem c (d := cOf d) (List.mem_append_right _ (List.mem_map_of_mem hd))
    obtain ⟨fs, hf⟩ := hfc d hd
    have inF : ∀ f : He.Fa, f ∈ (He.Fa.glo d.name :: He.Fa.cls d.name :: fs.map (He.Fa.noat d.name)) → f ∈ faOf t H := fun f hf2 => List.mem_append_left _ (List.mem_append_right _ (List.mem_flatMap.2 ⟨(d.name, fs), hf, hf2⟩))
    have m := He.glo_ok KX G (fact_mem c (inF _ List.mem_cons_self))
    have cc := He.cls_ok (fact_mem c (inF _ (List.mem_cons_of_mem _ List.mem_cons_self)))
    have mk := He.mkr_ok (fact_mem c (f := .mkr d.name) (List.mem_append_right _ (List.mem_map.2 ⟨d, hd, rfl⟩)))
    refine ⟨He.ga K d.name, _, fd, d.name ++ ".__init__", ?_, mk, F, m, FunD.bindsN F fun kV doc pm an cdv ct us hl => hbc d hd _ kV doc pm an cdv ct us hl, cc⟩
    show (H.flds.lookup d.name).map _ = _
    cases q : H.flds.lookup d.name with
    | some _ => rfl
    | none =>
      exfalso
      have : ∀ l : List (Str × List Str), (d.name, fs) ∈ l → l.lookup d.name ≠ none := fun l => by
        induction l with
        | nil => intro h; cases h
        | cons a r ih =>
          intro h
          rw [List.lookup_cons]
          split
          · intro z; cases z
          · rename_i ne
            rcases List.mem_cons.1 h with e | e
            · rw [← e] at ne; simp at ne
            · exact ih e
      exact this _ hf q
  csc := hscc
  cnn := hnc
  blt := fun x hx => by
    have hm := bn_list hx
    exact He.free_ok KX G (fact_mem c (f := .free x) (List.mem_append_left _ (List.mem_append_left _ (List.mem_append_left _ (List.mem_append_right _ (List.mem_map_of_mem hm))))))
  cls := fun x ci h => by
    rw [hm] at h
    have h : (H.flds.lookup x).map Ci.mk = some ci := h
    cases q : H.flds.lookup x with
    | none => rw [q] at h; cases h
    | some fs =>
      rw [q] at h
      cases h
      have hf := lookup_memL q
      have inF : ∀ f : He.Fa, f ∈ (He.Fa.glo x :: He.Fa.cls x :: fs.map (He.Fa.noat x)) → f ∈ faOf t H := fun f hf2 => List.mem_append_left _ (List.mem_append_right _ (List.mem_flatMap.2 ⟨(x, fs), hf, hf2⟩))
      refine ⟨He.ga K x, ?_, He.cls_ok (fact_mem c (inF _ (List.mem_cons_of_mem _ List.mem_cons_self))), fun f hf2 => He.noat_ok (fact_mem c (inF _ (List.mem_cons_of_mem _ (List.mem_cons_of_mem _ (List.mem_map.2 ⟨f, hf2, rfl⟩)))))⟩
      show (H.flds.lookup x).map _ = _
      rw [q]
      rfl
  exc := fun x d h => by
    rw [hm] at h
    cases h
  con := fun x d h => by
    rw [hm] at h
    have h : (H.cons.lookup x).map D.int = some d := h
    cases q : H.cons.lookup x with
    | none => rw [q] at h; cases h
    | some i =>
      rw [q] at h
      cases h
      obtain ⟨tk, e⟩ := He.int_ok KX G (fact_mem c (f := .int x i) (List.mem_append_left _ (List.mem_append_left _ (List.mem_append_right _ (List.mem_map.2 ⟨(x, i), lookup_memL q, rfl⟩)))))
      exact ⟨_, .int i, e, ⟨tk, rfl⟩, fun F => .int i⟩
end PyD
end
section
set_option Elab.async false
set_option linter.all false
set_option maxRecDepth 100000
set_option maxHeartbeats 1000000
namespace PyD
open PySem PySem.Spec PyProof.Rows L2
/-! ### plain rules of the combinators -/
abbrev nD (n : Nat) : D := .int (n : Int)
theorem semAt_fn {t : Tx} {n : Nat} {f : Str} {d : Df} {b : Ex} {ds : List D} (h : fnd t.fs f = some d) (e : bodyOf (tbOf t (semAt t n) d) d.st = b) : semAt t (n + 1) f ds = runD d.g d.N b ds := by
  conv => lhs; unfold semAt
  rw [h]
  show runD d.g d.N (bodyOf _ d.st) ds = _
  rw [e]
theorem semAt_cl {t : Tx} {n : Nat} {f : Str} {d : Cf} {b : Ex} {ds : List D} (h0 : fnd t.fs f = none) (h : fndC t.cs f = some d) (e : bodyOf (tbC t (semAt t n) d) d.st = b) : semAt t (n + 1) f ds = runC d b ds := by
  conv => lhs; unfold semAt
  rw [h0, h]
  show runC d (bodyOf _ d.st) ds = _
  rw [e]
theorem runD_ok {g : Sg} {N : List Str} {b : Ex} {ds : List D} {fl : Fl} (hl : ds.length = g.n) (h : b (env0 N ds) = .ok fl) : runD g N b ds = finF g fl := by
  unfold runD
  rw [if_pos hl, h]
/-! slots -/
@[simp] theorem varB_zero {s : Sl} {l : DEnv} : varB 0 (some s :: l) = .ok s := rfl
@[simp] theorem varB_succ {n : Nat} {a : Option Sl} {l : DEnv} : varB (n + 1) (a :: l) = varB n l := rfl
@[simp] theorem asSh_sh {d : D} : Sl.asSh (.sh, d) = .ok (.sh, d) := rfl
@[simp] theorem setSlot_zero {s : Sl} {a : Option Sl} {l : DEnv} : setSlot 0 s (a :: l) = some s :: l := rfl
@[simp] theorem setSlot_succ {n : Nat} {s : Sl} {a : Option Sl} {l : DEnv} : setSlot (n + 1) s (a :: l) = a :: setSlot n s l := rfl
@[simp] theorem dem_nil {env : DEnv} : dem [] env = env := rfl
@[simp] theorem dem_cons {i : Nat} {r : List Nat} {env : DEnv} : dem (i :: r) env = dem r (dem1 i env) := rfl
@[simp] theorem dem1_zero {o : Ow} {d : D} {l : DEnv} : dem1 0 (some (o, d) :: l) = some (.sh, d) :: l := rfl
@[simp] theorem dem1_zeroN {l : DEnv} : dem1 0 (none :: l) = none :: l := rfl
@[simp] theorem dem1_succ {n : Nat} {a : Option Sl} {l : DEnv} : dem1 (n + 1) (a :: l) = a :: dem1 n l := by
  unfold dem1
  rw [List.getElem?_cons_succ]
  cases h : l[n]? with
  | none => rfl
  | some x =>
    cases x with
    | none => rfl
    | some s => rfl
@[simp] theorem set1_zero {d : D} {a : Option Sl} {l : DEnv} : set1 0 d (a :: l) = .ok (some (.sh, d) :: l) := by
  unfold set1
  simp
@[simp] theorem set1_succ {n : Nat} {d : D} {a : Option Sl} {l : DEnv} : set1 (n + 1) d (a :: l) = (set1 n d l).bind fun l' => .ok (a :: l') := by
  unfold set1
  by_cases h : n < l.length
  · rw [if_pos (by simp [h]), if_pos (by simp [h])]; rfl
  · rw [if_neg (by simp; omega), if_neg (by simp; omega)]; rfl
@[simp] theorem wipeD_nil {env : DEnv} : wipeD env [] = env := rfl
@[simp] theorem wipeD_cons {env : DEnv} {i : Nat} {r : List Nat} : wipeD env (i :: r) = (wipeD env r).set i none := rfl
@[simp] theorem demS_eq {l : List Nat} {x : Ex} {env : DEnv} : demS l x env = x (dem l env) := rfl
/-! statements; a loop stays as it is -/
@[simp] theorem seqV_nil {env : DEnv} : seqV [] env = .ok (.nx env) := rfl
@[simp] theorem seqV_cons {s : Ex} {r : List Ex} {env : DEnv} : seqV (s :: r) env = (s env).bind fun fl => match fl with
    | .nx env' => seqV r env'
    | fl => .ok fl := rfl
/-- the set of rules by which a text without loops runs -/
theorem setS_run {i : Nat} {e : Ev} {env : DEnv} : setS i e env = if decide (i < env.length) then cat (e env) env fun s => .ok (.nx (setSlot i s env)) else .bad := rfl
theorem frzE_run {e : Ev} {env : DEnv} : frzE e env = (e env).bind fun s => .ok (.sh, s.2) := rfl
@[simp] theorem eqD_int {i j : Int} : eqD (.int i) (.int j) = .ok (decide (i = j)) := rfl
@[simp] theorem eqD_str {i j : Str} : eqD (.str i) (.str j) = .ok (decide (i = j)) := rfl
@[simp] theorem eqD_bl {i j : Bool} : eqD (.bl i) (.bl j) = .ok (decide (i = j)) := rfl
/-! a row, as a list or as a tuple -/
def sq (b : Bool) (xs : List D) : D := if b then .lst xs else .tup xs
@[simp] theorem items_sq {b : Bool} {xs : List D} : items (sq b xs) = some xs := by cases b <;> rfl
@[simp] theorem items_tup {xs : List D} : items (.tup xs) = some xs := rfl
@[simp] theorem items_lst {xs : List D} : items (.lst xs) = some xs := rfl
@[simp] theorem len_sq {b : Bool} {o : Ow} {xs : List D} : blD .len (o, sq b xs) = .ok (.sh, .int xs.length) := by cases b <;> rfl
@[simp] theorem len_tup {o : Ow} {xs : List D} : blD .len (o, .tup xs) = .ok (.sh, .int xs.length) := rfl
@[simp] theorem len_lst {o : Ow} {xs : List D} : blD .len (o, .lst xs) = .ok (.sh, .int xs.length) := rfl
@[simp] theorem tuple_sq {b : Bool} {xs : List D} : blD .tuple (.sh, sq b xs) = .ok (.sh, .tup xs) := by cases b <;> rfl
@[simp] theorem tuple_tup {xs : List D} : blD .tuple (.sh, .tup xs) = .ok (.sh, .tup xs) := rfl
@[simp] theorem tuple_lsh {xs : List D} : blD .tuple (.sh, .lst xs) = .ok (.sh, .tup xs) := rfl
@[simp] theorem tuple_lst {xs : List D} : blD .tuple (.lst .sh, .lst xs) = .ok (.sh, .tup xs) := rfl
@[simp] theorem list_sq {b : Bool} {xs : List D} : blD .list (.sh, sq b xs) = .ok (.lst .sh, .lst xs) := by cases b <;> rfl
@[simp] theorem list_tup {xs : List D} : blD .list (.sh, .tup xs) = .ok (.lst .sh, .lst xs) := rfl
@[simp] theorem list_lst {xs : List D} : blD .list (.lst .sh, .lst xs) = .ok (.lst .sh, .lst xs) := rfl
@[simp] theorem list_lsh {xs : List D} : blD .list (.sh, .lst xs) = .ok (.lst .sh, .lst xs) := rfl
@[simp] theorem int_int {o : Ow} {i : Int} : blD .int (o, .int i) = .ok (.sh, .int i) := rfl
theorem ixN_lt {n j : Nat} (hj : j < n) : ixN n (j : Int) = some j := by
  unfold ixN
  rw [if_pos (by omega), if_pos (by omega)]
  simp
theorem atI_nat {α : Type} (xs : List α) {j : Nat} (hj : j < xs.length) : atI xs (j : Int) = some xs[j] := by
  unfold atI
  rw [ixN_lt hj]
  simp [hj]
section
variable {α : Type}
theorem sub_sq {b : Bool} {f : α → D} {xs : List α} {j : Nat} (h : j < xs.length) (d : α) : subD (.sh, sq b (xs.map f)) (.int j) = .ok (.sh, f (xs.getD j d)) := by
  cases b <;> (unfold subD sq; simp only [Bool.false_eq_true, if_false, if_true]; rw [atI_nat _ (by simpa using h)]; simp [h])
theorem sub_tup {f : α → D} {xs : List α} {j : Nat} (h : j < xs.length) (d : α) : subD (.sh, .tup (xs.map f)) (.int j) = .ok (.sh, f (xs.getD j d)) := sub_sq (b := false) h d
theorem sub_lst {o : Ow} {f : α → D} {xs : List α} {j : Nat} (h : j < xs.length) (d : α) : subD (o, .lst (xs.map f)) (.int j) = .ok (match o with | .lst o => o | _ => .sh, f (xs.getD j d)) := by
  unfold subD
  simp only
  rw [atI_nat _ (by simpa using h)]
  cases o <;> simp [h]
theorem sub_lsh {f : α → D} {xs : List α} {j : Nat} (h : j < xs.length) (d : α) : subD (.sh, .lst (xs.map f)) (.int j) = .ok (.sh, f (xs.getD j d)) := sub_lst h d
theorem sub_lown {f : α → D} {xs : List α} {j : Nat} (h : j < xs.length) (d : α) : subD (.lst .sh, .lst (xs.map f)) (.int j) = .ok (.sh, f (xs.getD j d)) := sub_lst h d
/-! what is walked -/
theorem range_run {f : Ev} {env : DEnv} {n : Nat} (h : f env = .ok (.sh, .int (n : Int))) (hn : n < 4611686018427387904) : (Src.range f).run env = .ok ((List.range n).map nD) := by
  show (f env).bind rangeD = _
  rw [h, R.bind_ok]
  have h1 : decide (-(2 ^ 62) ≤ (n : Int)) = true := decide_eq_true (by omega)
  have h2 : decide ((n : Int) < 2 ^ 62) = true := decide_eq_true (by omega)
  unfold rangeD
  simp only [h1, h2]
  rfl
theorem seq_run {f : Ev} {env : DEnv} {s : Sl} {xs : List D} (h : f env = .ok s) (hx : items s.2 = some xs) : (Src.seq (frzE f)).run env = .ok xs := by
  show (frzE f env).bind iterD = _
  rw [frzE_run, h, R.bind_ok]
  show R.need (items s.2) = _
  rw [hx]
  rfl
/-! comprehensions -/
theorem oneOw_sh : ∀ {ys : List Sl}, (∀ y ∈ ys, y.1 = .sh) → oneOw ys = some .sh
  | [], _ => rfl
  | [s], h => by
    show some s.1 = _
    rw [h s List.mem_cons_self]
  | s :: s2 :: r, h => by
    show ((oneOw (s2 :: r)).bind fun o => if owEq s.1 o then some o else none) = _
    rw [oneOw_sh fun y hy => h y (List.mem_cons_of_mem _ hy), Option.bind_some, h s List.mem_cons_self]
    rfl
theorem compR_map {st : Tg} {t : DEnv → R Bool} {e : Ev} {env : DEnv} (f : α → D) (p : α → Bool) (g : α → Sl) : ∀ ns : List α, (∀ x ∈ ns, ∃ en, st (f x) env = .ok en ∧ t en = .ok (p x) ∧ (p x = true → e en = .ok (g x))) → compR st t e env (ns.map f) = .ok ((ns.filter p).map g)
  | [], _ => rfl
  | x :: xs, h => by
    have ih := compR_map f p g xs fun y hy => h y (List.mem_cons_of_mem _ hy)
    obtain ⟨en, h0, h1, h2⟩ := h x List.mem_cons_self
    rw [List.map_cons]
    unfold compR
    rw [h0, R.bind_ok, h1, R.bind_ok]
    cases hp : p x with
    | false => rw [if_neg (by simp), ih, List.filter_cons_of_neg (by simp [hp])]
    | true =>
      rw [if_pos rfl, h2 hp, R.bind_ok, ih, R.bind_ok, List.filter_cons_of_pos hp]
      rfl
/-- [g x for x in ns if p x] -/
theorem comp_map {src : Src} {st : Tg} {t : DEnv → R Bool} {e : Ev} {own : List Nat} {env : DEnv} (f : α → D) (p : α → Bool) (g : α → D) (ns : List α) (hs : src.run env = .ok (ns.map f)) (hl : ns.length ≤ 16777216) (h : ∀ x ∈ ns, ∃ en, st (f x) (wipeD env own) = .ok en ∧ t en = .ok (p x) ∧ (p x = true → e en = .ok (.sh, g x))) : compG src st t e own env = .ok (.lst .sh, .lst ((ns.filter p).map g)) := by
  unfold compG
  rw [hs, R.bind_ok, if_pos (decide_eq_true (by rw [List.length_map, sizeLine_eq]; exact hl)), compR_map f p (fun x => (.sh, g x)) ns h]
  show (R.need (oneOw (List.map (fun x => (Ow.sh, g x)) _))).bind _ = _
  rw [oneOw_sh fun y hy => by
    obtain ⟨x, _, e⟩ := List.mem_map.1 hy
    rw [← e]]
  rw [R.need_some, R.bind_ok, List.map_map]
  rfl
theorem comp_all {src : Src} {st : Tg} {e : Ev} {own : List Nat} {env : DEnv} (f : α → D) (g : α → D) (ns : List α) (hs : src.run env = .ok (ns.map f)) (hl : ns.length ≤ 16777216) (h : ∀ x ∈ ns, ∃ en, st (f x) (wipeD env own) = .ok en ∧ e en = .ok (.sh, g x)) : compG src st yesT e own env = .ok (.lst .sh, .lst (ns.map g)) := by
  rw [comp_map f (fun _ => true) g ns hs hl fun x hx => by
    obtain ⟨en, h1, h2⟩ := h x hx
    exact ⟨en, h1, rfl, fun _ => h2⟩]
  rw [List.filter_eq_self.2 fun _ _ => rfl]
theorem oneOw_o {o : Ow} (ho : owEq o o = true) : ∀ {ys : List Sl}, ys ≠ [] → (∀ y ∈ ys, y.1 = o) → oneOw ys = some o
  | [], n, _ => absurd rfl n
  | [s], _, h => by
    show some s.1 = _
    rw [h s List.mem_cons_self]
  | s :: s2 :: r, _, h => by
    show ((oneOw (s2 :: r)).bind fun o => if owEq s.1 o then some o else none) = _
    rw [oneOw_o ho (by simp) fun y hy => h y (List.mem_cons_of_mem _ hy), Option.bind_some, h s List.mem_cons_self, if_pos ho]
/-- a comprehension of lists of one's own -/
theorem comp_own {src : Src} {st : Tg} {e : Ev} {own : List Nat} {env : DEnv} {o : Ow} (ho : owEq o o = true) (f : α → D) (g : α → D) (ns : List α) (hs : src.run env = .ok (ns.map f)) (hl : ns.length ≤ 16777216) (hne : ns ≠ []) (h : ∀ x ∈ ns, ∃ en, st (f x) (wipeD env own) = .ok en ∧ e en = .ok (o, g x)) : compG src st yesT e own env = .ok (.lst o, .lst (ns.map g)) := by
  unfold compG
  rw [hs, R.bind_ok, if_pos (decide_eq_true (by rw [List.length_map, sizeLine_eq]; exact hl)), compR_map f (fun _ => true) (fun x => (o, g x)) ns fun x hx => by
    obtain ⟨en, h1, h2⟩ := h x hx
    exact ⟨en, h1, rfl, fun _ => h2⟩]
  rw [List.filter_eq_self.2 fun _ _ => rfl]
  show (R.need (oneOw (List.map (fun x => (o, g x)) ns))).bind _ = _
  rw [oneOw_o ho (by simpa using hne) fun y hy => by
    obtain ⟨x, _, e⟩ := List.mem_map.1 hy
    rw [← e]]
  rw [R.need_some, R.bind_ok, List.map_map]
  rfl
/-! loops -/
theorem forG_cons {st : Tg} {body : Ex} {x : D} {xs : List D} {env : DEnv} : forG st body (x :: xs) env = (st x env).bind fun en => (body en).bind fun fl => match fl with
    | .nx env' => forG st body xs env'
    | .ct env' => forG st body xs env'
    | .bk env' => .ok (.nx env')
    | .rt s => .ok (.rt s)
    | .xc x env' => .ok (.xc x env') := rfl
/-- a loop: each turn goes on, or leaves -/
theorem forG_gen {st : Tg} {body : Ex} (P : List α → DEnv → Prop) (X : Fl → Prop) (f : α → D) {xs : List α} (h : ∀ (pre : List α) (x : α) (post : List α) (env : DEnv), xs = pre ++ x :: post → P pre env → ∃ en, st (f x) env = .ok en ∧ ((∃ env', (body en = .ok (.nx env') ∨ body en = .ok (.ct env')) ∧ P (pre ++ [x]) env') ∨ (∃ s, body en = .ok (.rt s) ∧ X (.rt s)) ∨ (∃ env', body en = .ok (.bk env') ∧ X (.nx env')))) {env : DEnv} (h0 : P [] env) :
    (∃ env', forG st body (xs.map f) env = .ok (.nx env') ∧ P xs env') ∨ ∃ fl, forG st body (xs.map f) env = .ok fl ∧ X fl := by
  have go : ∀ (post pre : List α) (env : DEnv), xs = pre ++ post → P pre env → (∃ env', forG st body (post.map f) env = .ok (.nx env') ∧ P xs env') ∨ ∃ fl, forG st body (post.map f) env = .ok fl ∧ X fl := by
    intro post
    induction post with
    | nil =>
      intro pre env e p
      rw [List.append_nil] at e
      subst e
      exact .inl ⟨env, rfl, p⟩
    | cons x post ih =>
      intro pre env e p
      obtain ⟨en, he, hb⟩ := h pre x post env e p
      rw [List.map_cons, forG_cons, he, R.bind_ok]
      rcases hb with ⟨env', hb, p'⟩ | ⟨s, hb, hx⟩ | ⟨env', hb, hx⟩
      · have z := ih (pre ++ [x]) env' (by rw [e, List.append_assoc]; rfl) p'
        rcases hb with hb | hb
        · rw [hb]; exact z
        · rw [hb]; exact z
      · rw [hb]; exact .inr ⟨_, rfl, hx⟩
      · rw [hb]; exact .inr ⟨_, rfl, hx⟩
  exact go xs [] env rfl h0
/-- a loop that nothing leaves -/
theorem forG_all {st : Tg} {body : Ex} (P : List α → DEnv → Prop) (f : α → D) {xs : List α} (h : ∀ (pre : List α) (x : α) (post : List α) (env : DEnv), xs = pre ++ x :: post → P pre env → ∃ en, st (f x) env = .ok en ∧ ∃ env', (body en = .ok (.nx env') ∨ body en = .ok (.ct env')) ∧ P (pre ++ [x]) env') {env : DEnv} (h0 : P [] env) : ∃ env', forG st body (xs.map f) env = .ok (.nx env') ∧ P xs env' := by
  rcases forG_gen P (fun _ => False) f (xs := xs) (fun pre x post env e p => by
    obtain ⟨en, h1, h2⟩ := h pre x post env e p
    exact ⟨en, h1, .inl h2⟩) h0 with z | ⟨_, _, z⟩
  · exact z
  · exact z.elim
/-- a search: leaves the first time that the test holds -/
theorem forG_find {st : Tg} {body : Ex} (P : DEnv → Prop) (f : α → D) (p : α → Bool) (r : α → Sl) : ∀ {xs : List α} {env : DEnv}, (∀ x ∈ xs, ∀ env, P env → ∃ en, st (f x) env = .ok en ∧ (p x = false → ∃ env', (body en = .ok (.nx env') ∨ body en = .ok (.ct env')) ∧ P env') ∧ (p x = true → body en = .ok (.rt (r x)))) → P env → (∀ x, xs.find? p = some x → forG st body (xs.map f) env = .ok (.rt (r x))) ∧ (xs.find? p = none → ∃ env', forG st body (xs.map f) env = .ok (.nx env') ∧ P env')
  | [], env, _, h0 => ⟨fun _ z => (nomatch z), fun _ => ⟨env, rfl, h0⟩⟩
  | x :: xs, env, h, h0 => by
    obtain ⟨en, he, hf, ht⟩ := h x List.mem_cons_self env h0
    rw [List.find?_cons]
    cases hp : p x with
    | true =>
      refine ⟨fun y z => ?_, fun z => by cases z⟩
      cases z
      rw [List.map_cons, forG_cons, he, R.bind_ok, ht hp]
      rfl
    | false =>
      obtain ⟨env', hb, p'⟩ := hf hp
      have ih := forG_find P f p r (xs := xs) (env := env') (fun y hy => h y (List.mem_cons_of_mem _ hy)) p'
      have e : forG st body ((x :: xs).map f) env = forG st body (xs.map f) env' := by
        rw [List.map_cons, forG_cons, he, R.bind_ok]
        rcases hb with hb | hb
        · rw [hb]; rfl
        · rw [hb]; rfl
      rw [e]
      exact ih
/-- a search for something that all items have: True or False at once -/
theorem forG_any {st : Tg} {body : Ex} (P : DEnv → Prop) (f : α → D) (p : α → Bool) (r : Sl) {xs : List α} {env : DEnv} (h : ∀ x ∈ xs, ∀ env, P env → ∃ en, st (f x) env = .ok en ∧ (p x = false → ∃ env', (body en = .ok (.nx env') ∨ body en = .ok (.ct env')) ∧ P env') ∧ (p x = true → body en = .ok (.rt r))) (h0 : P env) : (xs.any p = true → forG st body (xs.map f) env = .ok (.rt r)) ∧ (xs.any p = false → ∃ env', forG st body (xs.map f) env = .ok (.nx env') ∧ P env') := by
  obtain ⟨h1, h2⟩ := forG_find P f p (fun _ => r) h h0
  refine ⟨fun z => ?_, fun z => h2 ?_⟩
  · cases q : xs.find? p with
    | some x => exact h1 x q
    | none =>
      rw [List.find?_eq_none] at q
      obtain ⟨x, hx, hp⟩ := List.any_eq_true.1 z
      exact absurd hp (q x hx)
  · rw [List.find?_eq_none]
    intro x hx hp
    have : xs.any p = true := List.any_eq_true.2 ⟨x, hx, hp⟩
    rw [z] at this
    cases this
end
end PyD
end
section
set_option Elab.async false
set_option linter.all false
set_option maxRecDepth 100000
open PySem PyD
namespace PB
def I_Book_c1 (c : Str → List D → R D) : Ev := compG (.seq (frzE (varE 3))) (set1 4) yesT (frzE (blE .tuple (varB 4))) [4]
def I_Book_c2 (c : Str → List D → R D) : Ev := compG (.seq (frzE (varE 2))) (set1 3) yesT (frzE (blE .tuple (I_Book_c1 c))) [3]
def b_Book (c : Str → List D → R D) (cl : Str → Option Ci) : Ex := seqV [
  (demS [] (fldS cl 0 "allowed" (frzE (blE .tuple (varB 1))))),
  (demS [2] (fldS cl 0 "reach" (frzE (blE .tuple (I_Book_c2 c)))))]
def I_Rule_l1b (c : Str → List D → R D) : Ex := (seqV [(demS [5] (ifS (notT (truE (callV c "is_world" ⟨3, .sh, false, []⟩ [(subE (varB 3) (varE 5)), (varB 1), (varB 2)]))) (seqV [badS]) (seqV [])))])
def I_Rule_c1 (c : Str → List D → R D) : Ev := compG (.seq (frzE (varE 8))) (set1 10) yesT (frzE (blE .tuple (varB 10))) [10]
def I_Rule_c2 (c : Str → List D → R D) : Ev := compG (.seq (frzE (varE 3))) (set1 8) yesT (frzE (blE .tuple (I_Rule_c1 c))) [8]
def I_Rule_c3 (c : Str → List D → R D) : Ev := compG (.seq (frzE (varE 4))) (set1 9) yesT (frzE (blE .tuple (varB 9))) [9]
def I_Rule_l3b (c : Str → List D → R D) : Ex := (seqV [(demS [7, 5] (appS 6 (frzE (tupV [(frzE (varE 7)), (frzE (varE 5))]))))])
def I_Rule_l2b (c : Str → List D → R D) : Ex := (seqV [(demS [5] (forT (set1 7) (.seq (frzE (subS (fldE "told" (varB 0)) (varE 5)))) (I_Rule_l3b c)))])
def b_Rule (c : Str → List D → R D) (cl : Str → Option Ci) : Ex := seqV [
  (demS [] (ifS (notT (blT (chainE .LtE .LtE (litE (.int 1)) (varB 1) (litE (.int 4))))) (seqV [badS]) (seqV []))),
  (demS [] (ifS (notT (blT (chainE .LtE .LtE (litE (.int 1)) (varB 2) (litE (.int 8))))) (seqV [badS]) (seqV []))),
  (demS [] (ifS (notT (blT (chainE .LtE .LtE (litE (.int 1)) (blE .len (varB 3)) (litE (.int 8))))) (seqV [badS]) (seqV []))),
  (demS [] (forT (set1 5) (.range (blE .len (varB 3))) (I_Rule_l1b c))),
  (demS [] (drpS (callV c "check_told" ⟨3, .sh, false, []⟩ [(varB 4), (blE .len (varB 3)), (varB 2)]))),
  (demS [1] (fldS cl 0 "people" (frzE (varE 1)))),
  (demS [2] (fldS cl 0 "outcomes" (frzE (varE 2)))),
  (demS [3] (fldS cl 0 "worlds" (frzE (blE .tuple (I_Rule_c2 c))))),
  (demS [4] (fldS cl 0 "told" (frzE (blE .tuple (I_Rule_c3 c))))),
  (demS [] (setS 6 (lstV []))),
  (demS [] (forT (set1 5) (.range (blE .len (fldE "told" (varB 0)))) (I_Rule_l2b c))),
  (demS [] (fldS cl 0 "pairs" (frzE (blE .tuple (varB 6))))),
  (demS [] (ifS (blT (cmpE .Gt (blE .len (varB 6)) (litE (.int 24)))) (seqV [badS]) (seqV [])))]
def liking_of_c1 (c : Str → List D → R D) : Ev := compG (.seq (frzE (varE 0))) (set1 2) yesT (frzE (idxE (varB 1) (varB 2))) [2]
def b_liking_of (c : Str → List D → R D) : Ex := seqV [
  (demS [] (setS 1 (blE .sorted (blE .set (varB 0))))),
  (demS [0] (retS (blE .tuple (liking_of_c1 c))))]
def b_is_liking (c : Str → List D → R D) : Ex := seqV [
  (demS [] (retS (andE (cmpE .Eq (blE .len (varB 0)) (varB 1)) (cmpE .Eq (blE .tuple (varB 0)) (callV c "liking_of" ⟨1, .sh, false, []⟩ [(varB 0)])))))]
def on_top_l1b (c : Str → List D → R D) : Ex := (seqV [(demS [3, 1] (ifS (blT (cmpE .Gt (subE (varB 0) (varE 3)) (subE (varB 0) (varE 1)))) (seqV [(demS [] (retS (litE (.bl false))))]) (seqV [])))])
def b_on_top (c : Str → List D → R D) : Ex := seqV [
  (demS [2] (forT (set1 3) (.seq (frzE (varE 2))) (on_top_l1b c))),
  (demS [] (retS (litE (.bl true))))]
def is_middle_l1b (c : Str → List D → R D) : Ex := (seqV [(demS [4] (asgT [5, 6] (subS (fldE "worlds" (varB 0)) (varE 4)))), (demS [4] (ifS (andT (blT (cmpE .NotIn (varB 1) (subE (fldE "told" (varB 0)) (varE 4)))) (andT (truE (callV c "on_top" ⟨3, .sh, false, []⟩ [(varB 5), (varB 1), (varB 2)])) (truE (callV c "on_top" ⟨3, .sh, false, []⟩ [(varB 6), (varB 1), (varB 3)])))) (seqV [(demS [] (retS (litE (.bl false))))]) (seqV [])))])
def b_is_middle (c : Str → List D → R D) : Ex := seqV [
  (demS [] (forT (set1 4) (.range (blE .len (fldE "worlds" (varB 0)))) (is_middle_l1b c))),
  (demS [] (retS (litE (.bl true))))]
def middles_c1 (c : Str → List D → R D) : Ev := compG (.seq (frzE (varE 4))) (set1 6) (andT (blT (cmpE .In (varB 6) (varB 5))) (truE (callV c "is_middle" ⟨4, .sh, false, []⟩ [(varB 0), (varB 6), (varB 4), (varB 5)]))) (frzE (varE 6)) [6]
def b_middles (c : Str → List D → R D) : Ex := seqV [
  (demS [2] (setS 4 (subS (subE (fldE "reach" (varB 1)) (varE 2)) (litE (.int 0))))),
  (demS [3] (setS 5 (subS (subE (fldE "reach" (varB 1)) (varE 3)) (litE (.int 1))))),
  (demS [4] (retS (blE .tuple (middles_c1 c))))]
def is_set_l1b (c : Str → List D → R D) : Ex := (seqV [(demS [] (ifS (orT (blT (cmpE .LtE (varB 3) (varB 2))) (blT (cmpE .GtE (varB 3) (varB 1)))) (seqV [(demS [] (retS (litE (.bl false))))]) (seqV []))), (demS [3] (setS 2 (varE 3)))])
def b_is_set (c : Str → List D → R D) : Ex := seqV [
  (demS [] (setS 2 (negE (litE (.int 1))))),
  (demS [0] (forT (set1 3) (.seq (frzE (varE 0))) (is_set_l1b c))),
  (demS [] (retS (cmpE .GtE (varB 2) (litE (.int 0)))))]
def is_world_l1b (c : Str → List D → R D) : Ex := (seqV [(demS [] (ifS (notT (truE (callV c "is_liking" ⟨2, .sh, false, []⟩ [(varB 3), (varB 2)]))) (seqV [(demS [] (retS (litE (.bl false))))]) (seqV [])))])
def b_is_world (c : Str → List D → R D) : Ex := seqV [
  (demS [] (ifS (blT (cmpE .NotEq (blE .len (varB 0)) (varB 1))) (seqV [(demS [] (retS (litE (.bl false))))]) (seqV []))),
  (demS [0] (forT (set1 3) (.seq (frzE (varE 0))) (is_world_l1b c))),
  (demS [] (retS (litE (.bl true))))]
def check_told_l1b (c : Str → List D → R D) : Ex := (seqV [(demS [3] (ifS (notT (truE (callV c "is_set" ⟨2, .sh, false, []⟩ [(subE (varB 0) (varE 3)), (varB 2)]))) (seqV [badS]) (seqV [])))])
def b_check_told (c : Str → List D → R D) : Ex := seqV [
  (demS [] (forT (set1 3) (.range (mm2E false (varB 1) (blE .len (varB 0)))) (check_told_l1b c))),
  (demS [] (ifS (blT (cmpE .NotEq (blE .len (varB 0)) (varB 1))) (seqV [badS]) (seqV [])))]
def law_row_l1b (c : Str → List D → R D) : Ex := (seqV [(demS [5] (ifS (andT (truE (varB 5)) (blT (cmpE .Gt (varB 4) (litE (.int 0))))) (seqV [(demS [] (appS 7 (frzE (binE .Mod (blE .int (varB 4)) (varB 3))))), (demS [] (setS 4 (binE .FloorDiv (varB 4) (varB 3))))]) (seqV [(demS [] (setS 6 (binE .Mod (blE .int (binE .Add (binE .Mult (varB 6) (litE (.int 48271))) (litE (.int 11)))) (litE (.int 2147483647))))), (demS [] (setS 9 (binE .Mod (blE .int (binE .Add (binE .Mult (varB 6) (litE (.int 69621))) (varB 8))) (litE (.int 2147483629))))), (demS [] (appS 7 (frzE (binE .Mod (blE .int (binE .FloorDiv (varB 9) (litE (.int 7)))) (varB 3)))))])))])
def b_law_row (c : Str → List D → R D) : Ex := seqV [
  (demS [] (setS 4 (litE (.int 0)))),
  (demS [] (ifS (blT (cmpE .Lt (varB 1) (blE .len (varB 0)))) (seqV [(demS [1] (setS 4 (blE .abs (subE (varB 0) (varE 1)))))]) (seqV []))),
  (demS [] (setS 5 (cmpE .GtE (varB 4) (binE .Pow (litE (.int 10)) (litE (.int 18)))))),
  (demS [] (setS 6 (binE .Mod (blE .int (binE .Add (binE .Add (binE .Mult (varB 4) (litE (.int 48271))) (binE .Mult (varB 1) (litE (.int 69621)))) (litE (.int 7)))) (litE (.int 2147483647))))),
  (demS [] (setS 7 (lstV []))),
  (demS [] (forT (set1 8) (.range (varB 2)) (law_row_l1b c))),
  (retS (varB 7))]
def law_same_l1b (c : Str → List D → R D) : Ex := (seqV [(demS [2, 2] (ifS (notT (truE (callV c "_law_same" ⟨2, .sh, false, []⟩ [(subE (varB 0) (varE 2)), (subE (varB 1) (varE 2))]))) (seqV [(demS [] (retS (litE (.bl false))))]) (seqV [])))])
def b_law_same (c : Str → List D → R D) : Ex := seqV [
  (demS [] (ifS (blT (cmpE .Is (varB 1) (litE (.non)))) (seqV [(demS [] (retS (cmpE .Is (varB 0) (litE (.non)))))]) (seqV []))),
  (demS [] (ifS (blT (cmpE .Is (varB 1) (litE (.bl true)))) (seqV [(demS [] (retS (cmpE .Is (varB 0) (litE (.bl true)))))]) (seqV []))),
  (demS [] (ifS (blT (cmpE .Is (varB 1) (litE (.bl false)))) (seqV [(demS [] (retS (cmpE .Is (varB 0) (litE (.bl false)))))]) (seqV []))),
  (demS [] (ifS (truE (isiE (varB 1) "str")) (seqV [(demS [] (retS (andE (isiE (varB 0) "str") (cmpE .Eq (varB 0) (varB 1)))))]) (seqV []))),
  (demS [] (ifS (truE (isiE (varB 1) "int")) (seqV [(demS [] (retS (andE (isiE (varB 0) "int") (andE (notE (isiE (varB 0) "bool")) (cmpE .Eq (varB 0) (varB 1))))))]) (seqV []))),
  (demS [] (ifS (orT (notT (truE (isiE (varB 0) "tuple"))) (blT (cmpE .NotEq (blE .len (varB 0)) (blE .len (varB 1))))) (seqV [(demS [] (retS (litE (.bl false))))]) (seqV []))),
  (demS [] (forT (set1 2) (.range (blE .len (varB 1))) (law_same_l1b c))),
  (demS [] (retS (litE (.bl true))))]
def law_dense_c1 (c : Str → List D → R D) : Ev := compG (.seq (frzE (varE 0))) (set1 2) yesT (frzE (idxE (varB 1) (varB 2))) [2]
def b_law_dense (c : Str → List D → R D) : Ex := seqV [
  (demS [] (setS 1 (blE .sorted (blE .set (varB 0))))),
  (demS [0] (retS (blE .tuple (law_dense_c1 c))))]
def law_over_l1b (c : Str → List D → R D) : Ex := (seqV [(demS [3, 1] (ifS (blT (cmpE .Gt (subE (varB 0) (varE 3)) (subE (varB 0) (varE 1)))) (seqV [(demS [] (retS (litE (.bl false))))]) (seqV [])))])
def b_law_over (c : Str → List D → R D) : Ex := seqV [
  (demS [2] (forT (set1 3) (.seq (frzE (varE 2))) (law_over_l1b c))),
  (demS [] (retS (litE (.bl true))))]
def law_world_c1 (c : Str → List D → R D) : Ev := compG (.seq (frzE (varE 8))) (set1 9) yesT (frzE (binE .Mod (blE .int (varB 9)) (varB 7))) [9]
def law_world_l1b (c : Str → List D → R D) : Ex := (seqV [(demS [] (setS 7 (binE .Add (litE (.int 1)) (binE .Mod (blE .int (subE (varB 4) (binE .Add (binE .Mult (varB 2) (varB 3)) (varB 6)))) (binE .Add (varB 3) (litE (.int 2))))))), (demS [] (setS 8 (sliE (varB 4) (some (binE .Mult (varB 6) (varB 3))) (some (binE .Add (binE .Mult (varB 6) (varB 3)) (varB 3)))))), (demS [8] (appS 5 (frzE (callV c "_law_dense" ⟨1, .sh, false, []⟩ [(law_world_c1 c)]))))])
def b_law_world (c : Str → List D → R D) : Ex := seqV [
  (demS [] (setS 4 (callV c "_law_row" ⟨4, .lst .sh, false, []⟩ [(varB 0), (varB 1), (binE .Add (binE .Mult (varB 2) (varB 3)) (varB 2)), (litE (.int 5040))]))),
  (demS [] (setS 5 (lstV []))),
  (demS [] (forT (set1 6) (.range (varB 2)) (law_world_l1b c))),
  (demS [] (retS (blE .tuple (varB 5))))]
def law_pairs_l2b (c : Str → List D → R D) : Ex := (seqV [(demS [3, 2] (appS 1 (frzE (tupV [(frzE (varE 3)), (frzE (varE 2))]))))])
def law_pairs_l1b (c : Str → List D → R D) : Ex := (seqV [(demS [2] (forT (set1 3) (.seq (frzE (subS (varB 0) (varE 2)))) (law_pairs_l2b c)))])
def b_law_pairs (c : Str → List D → R D) : Ex := seqV [
  (demS [] (setS 1 (lstV []))),
  (demS [] (forT (set1 2) (.range (blE .len (varB 0))) (law_pairs_l1b c))),
  (retS (varB 1))]
def law_told_c1 (c : Str → List D → R D) : Ev := compG (.range (varB 3)) (set1 13) (blT (cmpE .Eq (binE .Mod (blE .int (subE (varB 8) (varE 13))) (varB 9)) (litE (.int 1)))) (frzE (varE 13)) [13]
def law_told_c2 (c : Str → List D → R D) : Ev := compG (.seq (frzE (subS (varB 2) (varE 7)))) (set1 14) (blT (cmpE .Eq (subE (varB 14) (varE 13)) (blE .max (varB 14)))) (frzE (varE 14)) [14]
def law_told_c3 (c : Str → List D → R D) : Ev := compG (.range (varB 3)) (set1 13) yesT (frzE (blE .len (law_told_c2 c))) [13]
def law_told_c4 (c : Str → List D → R D) : Ev := compG (.seq (frzE (subS (varB 2) (varE 7)))) (set1 14) (blT (cmpE .Lt (subE (varB 14) (varE 13)) (subE (varB 14) (litE (.int 0))))) (frzE (varE 14)) [14]
def law_told_c5 (c : Str → List D → R D) : Ev := compG (.range (varB 3)) (set1 13) yesT (frzE (blE .len (law_told_c4 c))) [13]
def law_told_c6 (c : Str → List D → R D) : Ev := compG (.range (varB 3)) (set1 13) (blT (cmpE .Gt (subE (varB 11) (varE 13)) (litE (.int 0)))) (frzE (varE 13)) [13]
def law_told_c7 (c : Str → List D → R D) : Ev := compG (.range (varB 3)) (set1 13) (blT (cmpE .Eq (subE (varB 12) (varE 13)) (litE (.int 0)))) (frzE (varE 13)) [13]
def law_told_l1b (c : Str → List D → R D) : Ex := (seqV [(demS [] (setS 8 (callV c "_law_row" ⟨4, .lst .sh, false, []⟩ [(varB 0), (binE .Add (varB 1) (varB 7)), (binE .Add (varB 3) (litE (.int 1))), (litE (.int 5040))]))), (demS [] (setS 9 (binE .Add (litE (.int 2)) (binE .Mod (blE .int (varB 4)) (litE (.int 2)))))), (demS [] (setS 10 (law_told_c1 c))), (demS [7] (setS 11 (law_told_c3 c))), (demS [7] (setS 12 (law_told_c5 c))), (demS [] (ifS (blT (cmpE .Eq (varB 4) (litE (.int 2)))) (seqV [(demS [] (setS 10 (law_told_c6 c)))]) (seqV []))), (demS [] (ifS (blT (cmpE .Eq (varB 4) (litE (.int 3)))) (seqV [(demS [] (setS 10 (law_told_c7 c)))]) (seqV []))), (demS [] (ifS (blT (cmpE .Eq (blE .len (varB 10)) (litE (.int 0)))) (seqV [(demS [3] (setS 10 (lstV [(frzE (binE .Mod (blE .int (subE (varB 8) (varE 3))) (varB 3)))])))]) (seqV []))), (demS [] (setS 10 (sliE (varB 10) none (some (binE .Add (litE (.int 1)) (varB 6)))))), (demS [] (augS 6 .Sub (binE .Sub (blE .len (varB 10)) (litE (.int 1))))), (demS [] (appS 5 (frzE (blE .tuple (varB 10)))))])
def b_law_told (c : Str → List D → R D) : Ex := seqV [
  (demS [] (setS 5 (lstV []))),
  (demS [] (setS 6 (binE .Sub (litE (.int 24)) (blE .len (varB 2))))),
  (demS [] (forT (set1 7) (.range (blE .len (varB 2))) (law_told_l1b c))),
  (retS (varB 5))]
def law_below_c1 (c : Str → List D → R D) : Ev := compG (.seq (frzE (varE 1))) (set1 5) (blT (cmpE .LtE (subE (varB 4) (varE 5)) (subE (varB 4) (subS (varB 2) (litE (.int 0)))))) (frzE (varE 5)) [5]
def b_law_below (c : Str → List D → R D) : Ex := seqV [
  (demS [3] (setS 4 (subS (subE (varB 0) (subS (varB 2) (litE (.int 1)))) (varE 3)))),
  (demS [1] (retS (law_below_c1 c)))]
def law_stays_c1 (c : Str → List D → R D) : Ev := compG (.range (blE .len (varB 0))) (set1 3) yesT (frzE (callV c "_law_over" ⟨3, .sh, false, []⟩ [(subE (varB 0) (varE 3)), (varB 1), (subE (varB 2) (varE 3))])) [3]
def b_law_stays (c : Str → List D → R D) : Ex := seqV [
  (demS [] (retS (cmpE .NotIn (litE (.bl false)) (law_stays_c1 c))))]
def law_middles_l2b (c : Str → List D → R D) : Ex := (seqV [(demS [7, 7, 2, 3] (ifS (andT (blT (cmpE .NotIn (varB 5) (subE (varB 1) (varE 7)))) (truE (callV c "_law_stays" ⟨3, .sh, false, []⟩ [(subE (varB 0) (varE 7)), (varB 5), (tupV [(frzE (varE 2)), (frzE (varE 3))])]))) (seqV [(demS [] (augS 6 .Add (litE (.int 1))))]) (seqV [])))])
def law_middles_l1b (c : Str → List D → R D) : Ex := (seqV [(demS [] (setS 6 (litE (.int 0)))), (demS [] (forT (set1 7) (.range (blE .len (varB 0))) (law_middles_l2b c))), (demS [] (ifS (andT (blT (cmpE .In (varB 5) (varB 3))) (blT (cmpE .Eq (varB 6) (litE (.int 0))))) (seqV [(demS [5] (appS 4 (frzE (varE 5))))]) (seqV [])))])
def b_law_middles (c : Str → List D → R D) : Ex := seqV [
  (demS [] (setS 4 (lstV []))),
  (demS [2] (forT (set1 5) (.seq (frzE (varE 2))) (law_middles_l1b c))),
  (retS (varB 4))]
end PB
end
section
set_option Elab.async false
set_option linter.all false
set_option maxRecDepth 100000
set_option maxHeartbeats 1000000
open PySem PyD L2
namespace PB
abbrev I (ns : List Int) : D := .lst (ns.map D.int)
abbrev eI (ns : List Int) : D := .tup (ns.map D.int)
abbrev eN (ns : List Nat) : D := .tup (ns.map nD)
abbrev eW (w : List (List Int)) : D := .tup (w.map eI)
theorem sl_eq : sizeLine = 16777216 := rfl
theorem mulOk_rc (i : Int) (c : Int) (h : -(2 ^ 64) < c ∧ c < 2 ^ 64) : mulOk i c = true := by
  unfold mulOk
  rw [Bool.or_eq_true, Bool.and_eq_true, Bool.and_eq_true]
  exact .inr ⟨decide_eq_true h.1, decide_eq_true h.2⟩
theorem mulOk_lc (i : Int) (c : Int) (h : -(2 ^ 64) < i ∧ i < 2 ^ 64) : mulOk i c = true := by
  unfold mulOk
  rw [Bool.or_eq_true, Bool.and_eq_true, Bool.and_eq_true]
  exact .inl ⟨decide_eq_true h.1, decide_eq_true h.2⟩
/-! ### what leaves a def -/
theorem immsI : ∀ ns : List Int, imms (ns.map D.int) = true
  | [] => rfl
  | n :: r => immsI r
theorem immsN : ∀ ns : List Nat, imms (ns.map nD) = true
  | [] => rfl
  | n :: r => immsN r
theorem imms_of {α : Type} {f : α → D} (h : ∀ x, imm (f x) = true) : ∀ xs : List α, imms (xs.map f) = true
  | [] => rfl
  | x :: r => by
    show (imm (f x) && imms (r.map f)) = true
    rw [h x, imms_of h r]
    rfl
theorem immO_l : ∀ {xs : List D}, imms xs = true → immOl .sh xs = true
  | [], _ => rfl
  | x :: r, h => by
    have h : (imm x && imms r) = true := h
    rw [Bool.and_eq_true] at h
    show (immO .sh x && immOl .sh r) = true
    rw [immO_l h.2, Bool.and_true]
    unfold immO
    exact h.1
theorem fin_sh {g : Sg} {o : Ow} {d : D} (hr : g.ret = .sh) (h : imm d = true) : finF g (.rt (o, d)) = .ok d := by
  show finD _ _ = _
  unfold finD
  have e : immO g.ret d = true := by rw [hr]; unfold immO; exact h
  rw [e, hr, Bool.or_true]
  rfl
theorem fin_lst {g : Sg} {xs : List D} (hr : g.ret = .lst .sh) (h : imms xs = true) : finF g (.rt (.lst .sh, .lst xs)) = .ok (.lst xs) := by
  show finD _ _ = _
  unfold finD
  have e : immO g.ret (.lst xs) = true := by rw [hr]; exact immO_l h
  rw [e, hr, Bool.or_true]
  rfl
theorem run_sh {g : Sg} {N : List Str} {b : Ex} {ds : List D} {o : Ow} {d : D} (hl : ds.length = g.n) (hr : g.ret = .sh) (h : imm d = true) (e : b (env0 N ds) = .ok (.rt (o, d))) : runD g N b ds = .ok d := by
  rw [runD_ok hl e, fin_sh hr h]
theorem run_lst {g : Sg} {N : List Str} {b : Ex} {ds : List D} {xs : List D} (hl : ds.length = g.n) (hr : g.ret = .lst .sh) (h : imms xs = true) (e : b (env0 N ds) = .ok (.rt (.lst .sh, .lst xs))) : runD g N b ds = .ok (.lst xs) := by
  rw [runD_ok hl e, fin_lst hr h]
theorem imm_bl (b : Bool) : imm (.bl b) = true := rfl
theorem imm_eN (m : List Nat) : imm (eN m) = true := immsN m
theorem imm_eI (m : List Int) : imm (eI m) = true := immsI m
theorem imm_eW (w : List (List Int)) : imm (eW w) = true := imms_of imm_eI w
/-! ### the row of numbers that a law draws from its script -/
def RowSt (script : D) (at' size limit : Int) (env : DEnv) (k : Nat) : Prop := ∃ (cell first : Int) (dig : Bool) (row : List Int) (s8 s9 : Option Sl), env = [some (.sh, script), some (.sh, .int at'), some (.sh, .int size), some (.sh, .int limit), some (.sh, .int cell), some (.sh, .bl dig), some (.sh, .int first), some (.lst .sh, .lst (row.map D.int)), s8, s9] ∧ row.length = k ∧ ∀ x ∈ row, 0 ≤ x ∧ x < limit
theorem row_step {c : Str → List D → R D} {script : D} {at' size limit : Int} (hl : 0 < limit) (hl2 : limit < 1073741824) {env : DEnv} {k : Nat} (hk : k < 1000000) (i : Int) (h : RowSt script at' size limit env k) : ∃ en, set1 8 (.int i) env = .ok en ∧ ∃ env', law_row_l1b c en = .ok (.nx env') ∧ RowSt script at' size limit env' (k + 1) := by
  obtain ⟨cell, first, dig, row, s8, s9, rfl, hr, hm⟩ := h
  refine ⟨_, by simp; rfl, ?_⟩
  have hs : row.length < sizeLine := Nat.lt_of_lt_of_le (by omega : row.length < 1000000) (by decide)
  have hn : limit ≠ 0 := by omega
  have hna : limit.natAbs < 1073741824 := by omega
  have hmd : ∀ x : Int, 0 ≤ x.fmod limit ∧ x.fmod limit < limit := fun x => ⟨Int.fmod_nonneg_of_pos _ hl, Int.fmod_lt_of_pos _ hl⟩
  have app : ∀ x : Int, row.map D.int ++ [D.int x] = (row ++ [x]).map D.int := fun x => by simp
  have m1 : mulOk first 48271 = true := mulOk_rc _ _ (by decide)
  have m2 : ∀ x, mulOk x 69621 = true := fun x => mulOk_rc _ _ (by decide)
  unfold law_row_l1b
  by_cases c : dig = true ∧ 0 < cell
  · refine ⟨[some (.sh, script), some (.sh, .int at'), some (.sh, .int size), some (.sh, .int limit), some (.sh, .int (cell.fdiv limit)), some (.sh, .bl dig), some (.sh, .int first), some (.lst .sh, .lst ((row ++ [cell.fmod limit]).map D.int)), some (.sh, .int i), s9], ?_, _, _, _, _, _, _, rfl, by simp [hr], ?_⟩
    · simp [c.1, c.2, ifS, andT, truE, truD, blT, cmpE, cmpD, litE, appS, frzE, binE, blE, binD, setS, hs, hn, hna]
    · intro x hx
      rcases List.mem_append.1 hx with hx | hx
      · exact hm x hx
      · rw [List.mem_singleton.1 hx]; exact hmd cell
  · refine ⟨[some (.sh, script), some (.sh, .int at'), some (.sh, .int size), some (.sh, .int limit), some (.sh, .int cell), some (.sh, .bl dig), some (.sh, .int ((first * 48271 + 11).fmod 2147483647)), some (.lst .sh, .lst ((row ++ [(((((first * 48271 + 11).fmod 2147483647) * 69621 + i).fmod 2147483629).fdiv 7).fmod limit]).map D.int)), some (.sh, .int i), some (.sh, .int ((((first * 48271 + 11).fmod 2147483647) * 69621 + i).fmod 2147483629))], ?_, _, _, _, _, _, _, rfl, by simp [hr], ?_⟩
    · have c' : (if dig = true then R.ok (decide (0 < cell)) else R.ok false) = R.ok false := by
        by_cases d : dig = true
        · rw [if_pos d]; simp [d] at c; simp [c]
        · rw [if_neg d]
      simp [ifS, andT, truE, truD, blT, cmpE, cmpD, litE, appS, frzE, binE, blE, binD, setS, hs, hn, hna, c', m1, m2]
    · intro x hx
      rcases List.mem_append.1 hx with hx | hx
      · exact hm x hx
      · rw [List.mem_singleton.1 hx]; exact hmd _
theorem row_first (script : List Int) (at' : Nat) (size limit : Int) : ∃ cell : Int, (demS [] (ifS (blT (cmpE .Lt (varB 1) (blE .len (varB 0)))) (seqV [(demS [1] (setS 4 (blE .abs (subE (varB 0) (varE 1)))))]) (seqV []))) [some (.sh, I script), some (.sh, .int at'), some (.sh, .int size), some (.sh, .int limit), some (.sh, .int 0), none, none, none, none, none] = .ok (.nx [some (.sh, I script), some (.sh, .int at'), some (.sh, .int size), some (.sh, .int limit), some (.sh, .int cell), none, none, none, none, none]) := by
  by_cases c : at' < script.length
  · refine ⟨(if script.getD at' 0 < 0 then -script.getD at' 0 else script.getD at' 0), ?_⟩
    simp [ifS, blT, cmpE, cmpD, blE, subE, varE, setS, sub_lsh c 0, c, blD]
  · refine ⟨0, ?_⟩
    simp [ifS, blT, cmpE, cmpD, blE, c]
theorem row_e3 (script : D) (at' size limit cell : Int) (s5 : Option Sl) : demS [] (setS 6 (binE .Mod (blE .int (binE .Add (binE .Add (binE .Mult (varB 4) (litE (.int 48271))) (binE .Mult (varB 1) (litE (.int 69621)))) (litE (.int 7)))) (litE (.int 2147483647)))) [some (.sh, script), some (.sh, .int at'), some (.sh, .int size), some (.sh, .int limit), some (.sh, .int cell), s5, none, none, none, none] = .ok (.nx [some (.sh, script), some (.sh, .int at'), some (.sh, .int size), some (.sh, .int limit), some (.sh, .int cell), s5, some (.sh, .int ((cell * 48271 + at' * 69621 + 7).fmod 2147483647)), none, none, none]) := by
  have m1 : ∀ x, mulOk x 48271 = true := fun x => mulOk_rc _ _ (by decide)
  have m2 : ∀ x, mulOk x 69621 = true := fun x => mulOk_rc _ _ (by decide)
  simp [setS, binE, litE, blE, binD, m1, m2]
theorem row_run {c : Str → List D → R D} {script : List Int} {at' size : Nat} {limit : Int} (hl : 0 < limit) (hl2 : limit < 1073741824) (hk : size < 1000000) : ∃ r : List Int, r.length = size ∧ (∀ x ∈ r, 0 ≤ x ∧ x < limit) ∧ b_law_row c [some (.sh, I script), some (.sh, .int at'), some (.sh, .int size), some (.sh, .int limit), none, none, none, none, none, none] = .ok (.rt (.lst .sh, I r)) := by
  obtain ⟨cell, hcell⟩ := row_first script at' size limit
  have h0 : RowSt (I script) at' size limit [some (.sh, I script), some (.sh, .int at'), some (.sh, .int size), some (.sh, .int limit), some (.sh, .int cell), some (.sh, .bl (decide (10 ^ 18 ≤ cell))), some (.sh, .int ((cell * 48271 + at' * 69621 + 7).fmod 2147483647)), some (.lst .sh, .lst []), none, none] 0 := ⟨_, _, _, [], _, _, rfl, rfl, fun _ z => nomatch z⟩
  have key := forG_all (st := set1 8) (body := law_row_l1b c) (fun pre env => RowSt (I script) at' size limit env pre.length) nD (xs := List.range size) (fun pre x post env e p => by
    have hpl : pre.length < 1000000 := by
      have := congrArg List.length e
      simp at this
      omega
    obtain ⟨en, a, env', b, c⟩ := row_step hl hl2 hpl (x : Int) p
    exact ⟨en, a, env', .inl b, by simpa using c⟩) h0
  obtain ⟨env', hf, cell', first', dig', r, s8, s9, rfl, hr, hm⟩ := key
  refine ⟨r, by simpa using hr, hm, ?_⟩
  unfold b_law_row
  rw [seqV_cons]
  have e1 : demS [] (setS 4 (litE (D.int 0))) [some (.sh, I script), some (.sh, .int at'), some (.sh, .int size), some (.sh, .int limit), none, none, none, none, none, none] = .ok (.nx [some (.sh, I script), some (.sh, .int at'), some (.sh, .int size), some (.sh, .int limit), some (.sh, .int 0), none, none, none, none, none]) := rfl
  rw [e1, R.bind_ok]
  dsimp only
  rw [seqV_cons, hcell, R.bind_ok]
  dsimp only
  have e2 : demS [] (setS 5 (cmpE .GtE (varB 4) (binE .Pow (litE (.int 10)) (litE (.int 18))))) [some (.sh, I script), some (.sh, .int at'), some (.sh, .int size), some (.sh, .int limit), some (.sh, .int cell), none, none, none, none, none] = .ok (.nx [some (.sh, I script), some (.sh, .int at'), some (.sh, .int size), some (.sh, .int limit), some (.sh, .int cell), some (.sh, .bl (decide (10 ^ 18 ≤ cell))), none, none, none, none]) := by
    simp [setS, binE, litE, binD, cmpE, cmpD]
  have e3' : demS [] (setS 7 (lstV [])) [some (.sh, I script), some (.sh, .int at'), some (.sh, .int size), some (.sh, .int limit), some (.sh, .int cell), some (.sh, .bl (decide (10 ^ 18 ≤ cell))), some (.sh, .int ((cell * 48271 + at' * 69621 + 7).fmod 2147483647)), none, none, none] = .ok (.nx [some (.sh, I script), some (.sh, .int at'), some (.sh, .int size), some (.sh, .int limit), some (.sh, .int cell), some (.sh, .bl (decide (10 ^ 18 ≤ cell))), some (.sh, .int ((cell * 48271 + at' * 69621 + 7).fmod 2147483647)), some (.lst .sh, .lst []), none, none]) := rfl
  have e4 : demS [] (forT (set1 8) (.range (varB 2)) (law_row_l1b c)) [some (.sh, I script), some (.sh, .int at'), some (.sh, .int size), some (.sh, .int limit), some (.sh, .int cell), some (.sh, .bl (decide (10 ^ 18 ≤ cell))), some (.sh, .int ((cell * 48271 + at' * 69621 + 7).fmod 2147483647)), some (.lst .sh, .lst []), none, none] = .ok (.nx [some (.sh, I script), some (.sh, .int at'), some (.sh, .int size), some (.sh, .int limit), some (.sh, .int cell'), some (.sh, .bl dig'), some (.sh, .int first'), some (.lst .sh, .lst (r.map D.int)), s8, s9]) := by
    show forT _ _ _ _ = _
    unfold forT
    rw [range_run (n := size) rfl (by omega), cat_ok]
    exact hf
  rw [seqV_cons, e2, R.bind_ok]
  dsimp only
  rw [seqV_cons, row_e3, R.bind_ok]
  dsimp only
  rw [seqV_cons, e3', R.bind_ok]
  dsimp only
  rw [seqV_cons, e4, R.bind_ok]
  rfl
abbrev N_row : List Str := ["script", "at", "size", "limit", "cell", "digits", "first", "row", "index", "second"]
theorem row_ok {c : Str → List D → R D} {script : List Int} {at' size : Nat} {limit : Int} (hl : 0 < limit) (hl2 : limit < 1073741824) (hk : size < 1000000) : ∃ r : List Int, r.length = size ∧ (∀ x ∈ r, 0 ≤ x ∧ x < limit) ∧ runD ⟨4, .lst .sh, false, []⟩ N_row (b_law_row c) [I script, .int at', .int size, .int limit] = .ok (I r) := by
  obtain ⟨r, h1, h2, h3⟩ := row_run (c := c) (script := script) (at' := at') hl hl2 hk
  exact ⟨r, h1, h2, run_lst rfl rfl (immsI r) h3⟩
end PB
end
section
set_option Elab.async false
set_option linter.all false
set_option maxRecDepth 100000
set_option maxHeartbeats 1000000
open PySem PyD L2
namespace PB
/-! ### places -/
def lk (l : List Int) (o : Nat) : Int := l.getD o 0
def nt (l : List Nat) (j : Nat) : Nat := l.getD j 0
def at0 {α : Type} (l : List (List α)) (j : Nat) : List α := l.getD j []
theorem at0_mem {α : Type} {l : List (List α)} {j : Nat} (h : j < l.length) : at0 l j ∈ l := by
  unfold at0
  rw [List.getD_eq_getElem?_getD, List.getElem?_eq_getElem h]
  exact List.getElem_mem h
theorem nt_mem {l : List Nat} {j : Nat} (h : j < l.length) : nt l j ∈ l := by
  unfold nt
  rw [List.getD_eq_getElem?_getD, List.getElem?_eq_getElem h]
  exact List.getElem_mem h
theorem sub_eI {l : List Int} {j : Nat} (h : j < l.length) : subD (.sh, eI l) (.int j) = .ok (.sh, .int (lk l j)) := sub_tup h 0
theorem sub_IO {l : List Int} {j : Nat} (h : j < l.length) : subD (.lst .sh, I l) (.int j) = .ok (.sh, .int (lk l j)) := sub_lown h 0
theorem sub_I {l : List Int} {j : Nat} (h : j < l.length) : subD (.sh, I l) (.int j) = .ok (.sh, .int (lk l j)) := sub_lsh h 0
theorem sub_eN {l : List Nat} {j : Nat} (h : j < l.length) : subD (.sh, eN l) (.int j) = .ok (.sh, nD (nt l j)) := sub_tup h 0
theorem sub_sqN {b : Bool} {l : List Nat} {j : Nat} (h : j < l.length) : subD (.sh, sq b (l.map nD)) (.int j) = .ok (.sh, nD (nt l j)) := sub_sq h 0
theorem sub_of {b : Bool} {α : Type} {f : List α → D} {l : List (List α)} {j : Nat} (h : j < l.length) : subD (.sh, sq b (l.map f)) (.int j) = .ok (.sh, f (at0 l j)) := sub_sq h []
theorem sub_ofT {α : Type} {f : List α → D} {l : List (List α)} {j : Nat} (h : j < l.length) : subD (.sh, .tup (l.map f)) (.int j) = .ok (.sh, f (at0 l j)) := sub_tup h []
theorem sub_ofL {α : Type} {f : List α → D} {l : List (List α)} {j : Nat} (h : j < l.length) : subD (.sh, .lst (l.map f)) (.int j) = .ok (.sh, f (at0 l j)) := sub_lsh h []
theorem sub_ofO {α : Type} {f : List α → D} {l : List (List α)} {j : Nat} (h : j < l.length) : subD (.lst .sh, .lst (l.map f)) (.int j) = .ok (.sh, f (at0 l j)) := sub_lown h []
theorem seq_nx {s : Ex} {r : List Ex} {env env' : DEnv} {res : R Fl} (h : s env = .ok (.nx env')) (h2 : seqV r env' = res) : seqV (s :: r) env = res := by
  rw [seqV_cons, h, R.bind_ok]
  exact h2
theorem seq_rt {s : Ex} {r : List Ex} {env : DEnv} {x : Sl} (h : s env = .ok (.rt x)) : seqV (s :: r) env = .ok (.rt x) := by
  rw [seqV_cons, h, R.bind_ok]
theorem for_nx {st : Tg} {src : Src} {body : Ex} {l : List Nat} {env env' : DEnv} {xs : List D} (h1 : src.run (dem l env) = .ok xs) (h2 : forG st body xs (dem l env) = .ok (.nx env')) : demS l (forT st src body) env = .ok (.nx env') := by
  show forT st src body (dem l env) = _
  unfold forT
  rw [h1, cat_ok, h2]
theorem for_rt {st : Tg} {src : Src} {body : Ex} {l : List Nat} {env : DEnv} {xs : List D} {x : Sl} (h1 : src.run (dem l env) = .ok xs) (h2 : forG st body xs (dem l env) = .ok (.rt x)) : demS l (forT st src body) env = .ok (.rt x) := by
  show forT st src body (dem l env) = _
  unfold forT
  rw [h1, cat_ok, h2]
/-! ### == and in -/
theorem vfs_ints : ∀ ns : List Int, D.vfs (ns.map D.int) = some (ns.map V.int)
  | [] => rfl
  | n :: r => by
    show (some (V.int n)).bind (fun a => (D.vfs (r.map D.int)).map (a :: ·)) = _
    rw [vfs_ints r]
    rfl
theorem vfs_bls : ∀ ns : List Bool, D.vfs (ns.map D.bl) = some (ns.map V.bl)
  | [] => rfl
  | n :: r => by
    show (some (V.bl n)).bind (fun a => (D.vfs (r.map D.bl)).map (a :: ·)) = _
    rw [vfs_bls r]
    rfl
theorem pys_ints : ∀ ns : List Int, D.pys (ns.map D.int) = some (ns.map PyData.int)
  | [] => rfl
  | n :: r => by
    show (some (PyData.int n)).bind (fun a => (D.pys (r.map D.int)).map (a :: ·)) = _
    rw [pys_ints r]
    rfl
theorem inV_ints (x : Int) : ∀ ns : List Int, inV (V.int x) (ns.map V.int) = decide (x ∈ ns)
  | [] => rfl
  | n :: r => by
    have ih := inV_ints x r
    unfold inV at ih ⊢
    rw [List.map_cons, List.any_cons, ih]
    have e : eqV (V.int n) (V.int x) = (n == x) := rfl
    rw [e]
    by_cases c : n = x
    · subst c; simp
    · have : (n == x) = false := by simpa using c
      rw [this, Bool.false_or]
      simp
      intro z
      exact absurd z.symm c
theorem inV_bls (x : Bool) : ∀ ns : List Bool, inV (V.bl x) (ns.map V.bl) = decide (x ∈ ns)
  | [] => rfl
  | n :: r => by
    have ih := inV_bls x r
    unfold inV at ih ⊢
    rw [List.map_cons, List.any_cons, ih]
    have e : eqV (V.bl n) (V.bl x) = (n == x) := by cases n <;> cases x <;> rfl
    rw [e]
    cases n <;> cases x <;> simp
theorem inD_of {x y : D} {a : V} {ys : List D} {bs : List V} (h1 : x.vf = some a) (h2 : items y = some ys) (h3 : D.vfs ys = some bs) : inD x y = .ok (inV a bs) := by
  unfold inD
  rw [h1, h2, Option.bind_some, h3]
theorem mem_cast {x : Nat} {ms : List Nat} : ((x : Int) ∈ ms.map fun n : Nat => (n : Int)) ↔ x ∈ ms := by
  rw [List.mem_map]
  constructor
  · rintro ⟨y, hy, e⟩
    have : y = x := by omega
    exact this ▸ hy
  · exact fun h => ⟨x, h, rfl⟩
theorem map_nD (ms : List Nat) : ms.map nD = (ms.map fun n : Nat => (n : Int)).map D.int := by rw [List.map_map]; rfl
theorem inD_N {x : Nat} {y : D} {ms : List Nat} (h : items y = some (ms.map nD)) : inD (nD x) y = .ok (decide (x ∈ ms)) := by
  rw [map_nD] at h
  rw [inD_of rfl h (vfs_ints _), inV_ints]
  congr 1
  exact decide_eq_decide.2 mem_cast
theorem inD_eN {x : Nat} {ms : List Nat} : inD (.int x) (eN ms) = .ok (decide (x ∈ ms)) := inD_N rfl
theorem inD_sqN {x : Nat} {b : Bool} {ms : List Nat} : inD (.int x) (sq b (ms.map nD)) = .ok (decide (x ∈ ms)) := inD_N (items_sq)
theorem inD_lN {x : Nat} {ms : List Nat} : inD (.int x) (.lst (ms.map nD)) = .ok (decide (x ∈ ms)) := inD_N rfl
theorem inD_bls {x : Bool} {bs : List Bool} : inD (.bl x) (.lst (bs.map D.bl)) = .ok (decide (x ∈ bs)) := by
  rw [inD_of rfl rfl (vfs_bls _), inV_bls]
theorem eqvAll_ints : ∀ xs ys : List Int, PyData.eqvAll (xs.map PyData.int) (ys.map PyData.int) = decide (xs = ys)
  | [], [] => by unfold PyData.eqvAll; rfl
  | [], y :: ys => by unfold PyData.eqvAll; rfl
  | x :: xs, [] => by unfold PyData.eqvAll; rfl
  | x :: xs, y :: ys => by
    rw [List.map_cons, List.map_cons]
    unfold PyData.eqvAll
    rw [eqvAll_ints xs ys]
    unfold PyData.eqv
    by_cases c : x = y
    · subst c; simp
    · simp [c]
theorem shaped_ints (ns : List Int) : SeqAt.shaped (.list (ns.map PyData.int)) = true := by
  induction ns with
  | nil => rfl
  | cons n r ih => exact ih
theorem shaped_intsT (ns : List Int) : SeqAt.shaped (.tuple (ns.map PyData.int)) = true := by
  induction ns with
  | nil => rfl
  | cons n r ih => exact ih
theorem eqD_eI {xs ys : List Int} : eqD (eI xs) (eI ys) = .ok (decide (xs = ys)) := by
  have p : ∀ ns : List Int, D.py (eI ns) = some (.tuple (ns.map PyData.int)) := fun ns => by
    show (D.pys (ns.map D.int)).map PyData.tuple = _
    rw [pys_ints]
    rfl
  unfold eqD
  simp only
  rw [p, p]
  simp only [shaped_intsT, Bool.and_self, if_true]
  congr 1
  show PyData.eqv _ _ = _
  unfold PyData.eqv
  exact eqvAll_ints xs ys
/-! ### likings -/
def onTop (l : List Int) (o : Nat) (ms : List Nat) : Bool := !(ms.any fun m => decide (lk l o < lk l m))
theorem on_top_ok {c : Str → List D → R D} {N : List Str} (hN : N.length = 4) {b : Bool} {l : List Int} {o : Nat} {ms : List Nat} (ho : o < l.length) (hm : ∀ m ∈ ms, m < l.length) : runD ⟨3, .sh, false, []⟩ N (b_on_top c) [eI l, .int o, sq b (ms.map nD)] = .ok (.bl (onTop l o ms)) := by
  refine run_sh (o := .sh) rfl rfl (imm_bl _) ?_
  have key := forG_any (st := set1 3) (body := on_top_l1b c) (fun env => ∃ s3, env = [some (.sh, eI l), some (.sh, .int o), some (.sh, sq b (ms.map nD)), s3]) nD (fun m => decide (lk l o < lk l m)) (.sh, .bl false) (xs := ms) (env := [some (.sh, eI l), some (.sh, .int o), some (.sh, sq b (ms.map nD)), none]) (fun x hx env h => by
    obtain ⟨s3, rfl⟩ := h
    have hx := hm x hx
    refine ⟨_, by simp; rfl, fun hp => ⟨_, .inl (by simp [on_top_l1b, setS, cat_ok, frzE_run, ifS, andT, orT, notT, truE, truD, blT, cmpE, cmpD, subE, subS, varE, binE, blE, binD, negE, notE, andE, orE, chainE, retS, appS, augS, drpS, asgT, callV, evsE, tupV, lstV, litE, fldE, okArgs, Ow.ok, Ow.isSh, Ow.flat, sliE, partE, partD, sliD, mm2E, mm2D, rgE, rgD, isiE, forT, isD, idxE, sub_eI hx, sub_eI ho, hp]; rfl), _, rfl⟩, fun hp => by simp [on_top_l1b, setS, cat_ok, frzE_run, ifS, andT, orT, notT, truE, truD, blT, cmpE, cmpD, subE, subS, varE, binE, blE, binD, negE, notE, andE, orE, chainE, retS, appS, augS, drpS, asgT, callV, evsE, tupV, lstV, litE, fldE, okArgs, Ow.ok, Ow.isSh, Ow.flat, sliE, partE, partD, sliD, mm2E, mm2D, rgE, rgD, isiE, forT, isD, idxE, sub_eI hx, sub_eI ho, hp]⟩) ⟨none, rfl⟩
  have src : (Src.seq (frzE (varE 2))).run [some (.sh, eI l), some (.sh, .int o), some (.sh, sq b (ms.map nD)), none] = .ok (ms.map nD) := seq_run (s := (.sh, sq b (ms.map nD))) (by simp [varE]) items_sq
  unfold env0
  rw [hN]
  show b_on_top c [some (.sh, eI l), some (.sh, .int o), some (.sh, sq b (ms.map nD)), none] = _
  unfold b_on_top onTop
  cases z : ms.any fun m => decide (lk l o < lk l m) with
  | true => exact seq_rt (for_rt src (key.1 z))
  | false =>
    obtain ⟨env', hf, s3, rfl⟩ := key.2 z
    refine seq_nx (for_nx src hf) ?_
    simp [setS, cat_ok, frzE_run, ifS, andT, orT, notT, truE, truD, blT, cmpE, cmpD, subE, subS, varE, binE, blE, binD, negE, notE, andE, orE, chainE, retS, appS, augS, drpS, asgT, callV, evsE, tupV, lstV, litE, fldE, okArgs, Ow.ok, Ow.isSh, Ow.flat, sliE, partE, partD, sliD, mm2E, mm2D, rgE, rgD, isiE, forT, isD, idxE]
theorem over_ok {c : Str → List D → R D} {N : List Str} (hN : N.length = 4) {b : Bool} {l : List Int} {o : Nat} {ms : List Nat} (ho : o < l.length) (hm : ∀ m ∈ ms, m < l.length) : runD ⟨3, .sh, false, []⟩ N (b_law_over c) [eI l, .int o, sq b (ms.map nD)] = .ok (.bl (onTop l o ms)) := on_top_ok (c := c) hN ho hm
/-- how many different numbers are below -/
def lvl (ps : List Int) (p : Int) : Nat := ((sdI ps).filter fun y => decide (y < p)).length
def dense (ps : List Int) : List Int := ps.map fun p => (lvl ps p : Int)
theorem sub_len {a b : List Int} (ha : a.Nodup) (hb : b.Nodup) (h : ∀ x, x ∈ a ↔ x ∈ b) : a.length = b.length := ((List.perm_ext_iff_of_nodup ha hb).2 h).length_eq
theorem sdI_nodup (ns : List Int) : (sdI ns).Nodup := nodup_lt (pw_sdI ns)
theorem insD_len {i : Int} : ∀ {l : List Int}, (insD i l).length ≤ l.length + 1
  | [] => by simp [insD]
  | j :: r => by
    unfold insD
    split
    · simp
    · split
      · simp
      · have := insD_len (i := i) (l := r); simp; omega
theorem sdI_len : ∀ ns : List Int, (sdI ns).length ≤ ns.length
  | [] => Nat.le_refl _
  | n :: r => Nat.le_trans insD_len (Nat.succ_le_succ (sdI_len r))
theorem indexD_sorted : ∀ {l : List Int} {x : Int} (n : Nat), l.Pairwise (· < ·) → x ∈ l → indexD (l.map V.int) (V.int x) n = .ok (n + (l.filter fun y => decide (y < x)).length)
  | j :: r, x, n, h, hx => by
    rw [List.pairwise_cons] at h
    rw [List.map_cons]
    unfold indexD
    have e : eqV (V.int j) (V.int x) = decide (j = x) := rfl
    rw [e]
    by_cases c : j = x
    · subst c
      rw [if_pos (by simp)]
      have : (j :: r).filter (fun y => decide (y < j)) = [] := by
        rw [List.filter_eq_nil_iff]
        intro a ha
        rcases List.mem_cons.1 ha with ha | ha
        · subst ha; simp
        · have := h.1 a ha; simp; omega
      rw [this]
      rfl
    · rw [if_neg (by simpa using c)]
      have hx' : x ∈ r := by
        rcases List.mem_cons.1 hx with z | z
        · exact absurd z.symm c
        · exact z
      have lt := h.1 x hx'
      rw [indexD_sorted (n + 1) h.2 hx', List.filter_cons_of_pos (by simpa using lt), List.length_cons]
      congr 1
      omega
theorem liking_of_ok {c : Str → List D → R D} {N : List Str} (hN : N.length = 3) {b : Bool} {ps : List Int} (hl : ps.length < 60) : runD ⟨1, .sh, false, []⟩ N (b_liking_of c) [sq b (ps.map D.int)] = .ok (eI (dense ps)) := by
  refine run_sh (o := .sh) rfl rfl (imm_eI _) ?_
  unfold env0
  rw [hN]
  show b_liking_of c [some (.sh, sq b (ps.map D.int)), none, none] = _
  unfold b_liking_of
  have e1 : blE .sorted (blE .set (varB 0)) [some (.sh, sq b (ps.map D.int)), none, none] = .ok (.lst .sh, I (sdI ps)) := by
    have : (sdI ps).length < 64 := Nat.lt_of_le_of_lt (sdI_len ps) (by omega)
    have sb : ps.length + 1 < scanBound := Nat.lt_of_lt_of_le (by omega : ps.length + 1 < 64) (by decide)
    simp [blE, blD, sb, this]
  refine seq_nx (env' := [some (.sh, sq b (ps.map D.int)), some (.lst .sh, I (sdI ps)), none]) (by simp [setS, e1]) ?_
  have e2 : liking_of_c1 c [some (.sh, sq b (ps.map D.int)), some (.lst .sh, I (sdI ps)), none] = .ok (.lst .sh, .lst (ps.map fun p => D.int (lvl ps p))) := by
    refine comp_all D.int (fun p => D.int (lvl ps p)) ps (seq_run (s := (.sh, sq b (ps.map D.int))) (by simp [varE]) items_sq) (by omega) fun x hx => ⟨_, by simp; rfl, ?_⟩
    have hm : x ∈ sdI ps := mem_sdI.2 hx
    have := indexD_sorted 0 (pw_sdI ps) hm
    simp [frzE_run, idxE, D.vf, vfs_ints, this, lvl]
  refine seq_rt ?_
  simp [setS, cat_ok, frzE_run, ifS, andT, orT, notT, truE, truD, blT, cmpE, cmpD, subE, subS, varE, binE, blE, binD, negE, notE, andE, orE, chainE, retS, appS, augS, drpS, asgT, callV, evsE, tupV, lstV, litE, fldE, okArgs, Ow.ok, Ow.isSh, Ow.flat, sliE, partE, partD, sliD, mm2E, mm2D, rgE, rgD, isiE, forT, isD, idxE, e2, dense]
theorem dense_ok {c : Str → List D → R D} {N : List Str} (hN : N.length = 3) {b : Bool} {ps : List Int} (hl : ps.length < 60) : runD ⟨1, .sh, false, []⟩ N (b_law_dense c) [sq b (ps.map D.int)] = .ok (eI (dense ps)) := liking_of_ok (c := c) hN hl
/-! levels are dense -/
theorem lvl_lt {ps : List Int} {p q : Int} (hp : p ∈ ps) (h : p < q) : lvl ps p < lvl ps q := by
  have e : (sdI ps).filter (fun y => decide (y < p)) = ((sdI ps).filter fun y => decide (y < q)).filter fun y => decide (y < p) := by
    rw [List.filter_filter]
    refine List.filter_congr fun x _ => ?_
    by_cases c : x < p
    · have : x < q := by omega
      simp [c, this]
    · simp [c]
  have hm : p ∈ (sdI ps).filter fun y => decide (y < q) := List.mem_filter.2 ⟨mem_sdI.2 hp, by simpa using h⟩
  unfold lvl
  rw [e]
  refine Nat.lt_of_le_of_ne (List.length_filter_le _ _) fun z => ?_
  have := List.length_filter_eq_length_iff.1 z p hm
  simp at this
theorem lvl_lt_iff {ps : List Int} {p q : Int} (hp : p ∈ ps) (hq : q ∈ ps) : lvl ps p < lvl ps q ↔ p < q := by
  constructor
  · intro h
    rcases Int.lt_trichotomy p q with c | c | c
    · exact c
    · subst c; omega
    · have := lvl_lt hq c; omega
  · exact lvl_lt hp
theorem dense_length (ps : List Int) : (dense ps).length = ps.length := by
  unfold dense
  rw [List.length_map]
theorem dense_dense (ps : List Int) : dense (dense ps) = dense ps := by
  unfold dense
  rw [List.map_map]
  refine List.map_congr_left fun p hp => ?_
  show ((lvl _ _ : Nat) : Int) = (lvl ps p : Int)
  congr 1
  have hb : (((sdI ps).filter fun y => decide (y < p)).map fun q => (lvl ps q : Int)).Nodup := by
    have n := (sdI_nodup ps).filter fun y => decide (y < p)
    rw [List.Nodup, List.pairwise_map]
    refine List.Pairwise.imp_of_mem ?_ n
    intro a b ha hb2 ne e
    have ha' := mem_sdI.1 (List.mem_filter.1 ha).1
    have hb' := mem_sdI.1 (List.mem_filter.1 hb2).1
    rcases Int.lt_trichotomy a b with z | z | z
    · have := lvl_lt ha' z; omega
    · exact ne z
    · have := lvl_lt hb' z; omega
  have key := sub_len ((sdI_nodup (ps.map fun p => (lvl ps p : Int))).filter fun y => decide (y < (lvl ps p : Int))) hb fun x => by
    rw [List.mem_filter, mem_sdI, List.mem_map, List.mem_map]
    constructor
    · rintro ⟨⟨q, hq, rfl⟩, h⟩
      simp only [decide_eq_true_eq] at h
      refine ⟨q, List.mem_filter.2 ⟨mem_sdI.2 hq, ?_⟩, rfl⟩
      have := (lvl_lt_iff hq hp).1 (by omega)
      simpa using this
    · rintro ⟨q, hq, rfl⟩
      obtain ⟨h1, h2⟩ := List.mem_filter.1 hq
      have h1 := mem_sdI.1 h1
      refine ⟨⟨q, h1, rfl⟩, ?_⟩
      simp only [decide_eq_true_eq] at h2 ⊢
      have := (lvl_lt_iff h1 hp).2 h2
      omega
  unfold lvl
  rw [List.length_map] at key
  exact key
def isLik (l : List Int) (o : Nat) : Bool := decide (l.length = o) && decide (l = dense l)
theorem is_liking_ok {c : Str → List D → R D} {N : List Str} (hN : N.length = 2) {b : Bool} {l : List Int} {o : Nat} (hl : l.length < 60) (hc : c "liking_of" [sq b (l.map D.int)] = .ok (eI (dense l))) : runD ⟨2, .sh, false, []⟩ N (b_is_liking c) [sq b (l.map D.int), .int o] = .ok (.bl (isLik l o)) := by
  refine run_sh (o := .sh) rfl rfl (imm_bl _) ?_
  unfold env0
  rw [hN]
  show b_is_liking c [some (.sh, sq b (l.map D.int)), some (.sh, .int o)] = _
  unfold b_is_liking isLik
  refine seq_rt ?_
  by_cases h : l.length = o
  · subst h
    simp [setS, cat_ok, frzE_run, ifS, andT, orT, notT, truE, truD, blT, cmpE, cmpD, subE, subS, varE, binE, blE, binD, negE, notE, andE, orE, chainE, retS, appS, augS, drpS, asgT, callV, evsE, tupV, lstV, litE, fldE, okArgs, Ow.ok, Ow.isSh, Ow.flat, sliE, partE, partD, sliD, mm2E, mm2D, rgE, rgD, isiE, forT, isD, idxE, hc, eqD_eI]
  · have : ¬ ((l.length : Int) = (o : Int)) := by omega
    simp [setS, cat_ok, frzE_run, ifS, andT, orT, notT, truE, truD, blT, cmpE, cmpD, subE, subS, varE, binE, blE, binD, negE, notE, andE, orE, chainE, retS, appS, augS, drpS, asgT, callV, evsE, tupV, lstV, litE, fldE, okArgs, Ow.ok, Ow.isSh, Ow.flat, sliE, partE, partD, sliD, mm2E, mm2D, rgE, rgD, isiE, forT, isD, idxE, this, h]
end PB
end
section
set_option Elab.async false
set_option linter.all false
set_option maxRecDepth 100000
set_option maxHeartbeats 1000000
open PySem PyD L2
namespace PB
/-! ### sets -/
def setB (o : Nat) : Int → List Nat → Bool
  | last, [] => decide (0 ≤ last)
  | last, m :: r => if (m : Int) ≤ last ∨ o ≤ m then false else setB o m r
def isSet (ms : List Nat) (o : Nat) : Bool := setB o (-1) ms
theorem set_loop {c : Str → List D → R D} {o : Nat} {M : D} : ∀ (ms : List Nat) (last : Int) (s3 : Option Sl), (setB o last ms = false ∧ forG (set1 3) (is_set_l1b c) (ms.map nD) [some (.sh, M), some (.sh, .int o), some (.sh, .int last), s3] = .ok (.rt (.sh, .bl false))) ∨ ∃ (last' : Int) (s3' : Option Sl), forG (set1 3) (is_set_l1b c) (ms.map nD) [some (.sh, M), some (.sh, .int o), some (.sh, .int last), s3] = .ok (.nx [some (.sh, M), some (.sh, .int o), some (.sh, .int last'), s3']) ∧ setB o last ms = decide (0 ≤ last')
  | [], last, s3 => .inr ⟨last, s3, rfl, rfl⟩
  | m :: r, last, s3 => by
    have ih := set_loop (c := c) (o := o) (M := M) r (m : Int) (some (.sh, nD m))
    by_cases h : (m : Int) ≤ last ∨ o ≤ m
    · left
      refine ⟨by unfold setB; rw [if_pos h], ?_⟩
      rw [List.map_cons, forG_cons]
      rcases h with h | h
      · simp [is_set_l1b, setS, cat_ok, frzE_run, ifS, andT, orT, notT, truE, truD, blT, cmpE, cmpD, subE, subS, varE, binE, blE, binD, negE, notE, andE, orE, chainE, retS, appS, augS, drpS, asgT, callV, evsE, tupV, lstV, litE, fldE, okArgs, Ow.ok, Ow.isSh, Ow.flat, sliE, partE, partD, sliD, mm2E, mm2D, rgE, rgD, isiE, forT, isD, idxE, h]
      · by_cases h2 : (m : Int) ≤ last
        · simp [is_set_l1b, setS, cat_ok, frzE_run, ifS, andT, orT, notT, truE, truD, blT, cmpE, cmpD, subE, subS, varE, binE, blE, binD, negE, notE, andE, orE, chainE, retS, appS, augS, drpS, asgT, callV, evsE, tupV, lstV, litE, fldE, okArgs, Ow.ok, Ow.isSh, Ow.flat, sliE, partE, partD, sliD, mm2E, mm2D, rgE, rgD, isiE, forT, isD, idxE, h2]
        · simp [is_set_l1b, setS, cat_ok, frzE_run, ifS, andT, orT, notT, truE, truD, blT, cmpE, cmpD, subE, subS, varE, binE, blE, binD, negE, notE, andE, orE, chainE, retS, appS, augS, drpS, asgT, callV, evsE, tupV, lstV, litE, fldE, okArgs, Ow.ok, Ow.isSh, Ow.flat, sliE, partE, partD, sliD, mm2E, mm2D, rgE, rgD, isiE, forT, isD, idxE, h, h2]
    · have e : setB o last (m :: r) = setB o m r := by
        show (if (m : Int) ≤ last ∨ o ≤ m then false else setB o m r) = _
        rw [if_neg h]
      rw [not_or] at h
      rw [e]
      have e2 : forG (set1 3) (is_set_l1b c) ((m :: r).map nD) [some (.sh, M), some (.sh, .int o), some (.sh, .int last), s3] = forG (set1 3) (is_set_l1b c) (r.map nD) [some (.sh, M), some (.sh, .int o), some (.sh, .int m), some (.sh, nD m)] := by
        rw [List.map_cons, forG_cons]
        simp [is_set_l1b, setS, cat_ok, frzE_run, ifS, andT, orT, notT, truE, truD, blT, cmpE, cmpD, subE, subS, varE, binE, blE, binD, negE, notE, andE, orE, chainE, retS, appS, augS, drpS, asgT, callV, evsE, tupV, lstV, litE, fldE, okArgs, Ow.ok, Ow.isSh, Ow.flat, sliE, partE, partD, sliD, mm2E, mm2D, rgE, rgD, isiE, forT, isD, idxE, h.1, h.2]
      rw [e2]
      exact ih
theorem is_set_ok {c : Str → List D → R D} {N : List Str} (hN : N.length = 4) {b : Bool} {ms : List Nat} {o : Nat} : runD ⟨2, .sh, false, []⟩ N (b_is_set c) [sq b (ms.map nD), .int o] = .ok (.bl (isSet ms o)) := by
  refine run_sh (o := .sh) rfl rfl (imm_bl _) ?_
  unfold env0
  rw [hN]
  show b_is_set c [some (.sh, sq b (ms.map nD)), some (.sh, .int o), none, none] = _
  unfold b_is_set isSet
  refine seq_nx (env' := [some (.sh, sq b (ms.map nD)), some (.sh, .int o), some (.sh, .int (-1)), none]) (by simp [setS, cat_ok, frzE_run, ifS, andT, orT, notT, truE, truD, blT, cmpE, cmpD, subE, subS, varE, binE, blE, binD, negE, notE, andE, orE, chainE, retS, appS, augS, drpS, asgT, callV, evsE, tupV, lstV, litE, fldE, okArgs, Ow.ok, Ow.isSh, Ow.flat, sliE, partE, partD, sliD, mm2E, mm2D, rgE, rgD, isiE, forT, isD, idxE]) ?_
  have src : (Src.seq (frzE (varE 0))).run [some (.sh, sq b (ms.map nD)), some (.sh, .int o), some (.sh, .int (-1)), none] = .ok (ms.map nD) := seq_run (s := (.sh, sq b (ms.map nD))) (by simp [varE]) items_sq
  rcases set_loop (c := c) (o := o) (M := sq b (ms.map nD)) ms (-1) none with ⟨h1, h2⟩ | ⟨last, s3, h1, h2⟩
  · rw [h1]
    exact seq_rt (for_rt src h2)
  · rw [h2]
    refine seq_nx (for_nx src h1) ?_
    simp [setS, cat_ok, frzE_run, ifS, andT, orT, notT, truE, truD, blT, cmpE, cmpD, subE, subS, varE, binE, blE, binD, negE, notE, andE, orE, chainE, retS, appS, augS, drpS, asgT, callV, evsE, tupV, lstV, litE, fldE, okArgs, Ow.ok, Ow.isSh, Ow.flat, sliE, partE, partD, sliD, mm2E, mm2D, rgE, rgD, isiE, forT, isD, idxE]
/-- a set of outcomes that is not empty -/
structure GoodSet (ms : List Nat) (o : Nat) : Prop where
  ne : ms ≠ []
  asc : ms.Pairwise (· < ·)
  lt : ∀ m ∈ ms, m < o
theorem setB_good {o : Nat} : ∀ {ms : List Nat} {last : Int}, (ms ≠ [] ∨ 0 ≤ last) → ms.Pairwise (· < ·) → (∀ m ∈ ms, m < o ∧ last < m) → setB o last ms = true
  | [], last, h, _, _ => by
    rcases h with h | h
    · exact absurd rfl h
    · exact decide_eq_true h
  | m :: r, last, _, h2, h3 => by
    have h4 := h3 m List.mem_cons_self
    unfold setB
    rw [if_neg (by omega)]
    rw [List.pairwise_cons] at h2
    exact setB_good (.inr (by omega)) h2.2 fun x hx => ⟨(h3 x (List.mem_cons_of_mem _ hx)).1, by have := h2.1 x hx; omega⟩
theorem GoodSet.set {ms : List Nat} {o : Nat} (h : GoodSet ms o) : isSet ms o = true := setB_good (.inl h.ne) h.asc fun m hm => ⟨h.lt m hm, by omega⟩
theorem GoodSet.len {ms : List Nat} {o : Nat} (h : GoodSet ms o) : ms.length ≤ o := by
  have go : ∀ (ms : List Nat) (k : Nat), ms.Pairwise (· < ·) → (∀ m ∈ ms, k ≤ m ∧ m < o) → k ≤ o → ms.length ≤ o - k := fun ms => by
    induction ms with
    | nil => intro k _ _ _; simp
    | cons m r ih =>
      intro k hp hm _
      rw [List.pairwise_cons] at hp
      have h1 := hm m List.mem_cons_self
      have := ih (m + 1) hp.2 (fun x hx => ⟨hp.1 x hx, (hm x (List.mem_cons_of_mem _ hx)).2⟩) (by omega)
      rw [List.length_cons]
      omega
  have := go ms 0 h.asc (fun m hm => ⟨Nat.zero_le _, h.lt m hm⟩) (Nat.zero_le _)
  omega
/-! ### worlds -/
def isWorld (w : List (List Int)) (p o : Nat) : Bool := decide (w.length = p) && w.all fun l => isLik l o
theorem is_world_ok {c : Str → List D → R D} {N : List Str} (hN : N.length = 4) {b b2 : Bool} {w : List (List Int)} {p o : Nat} (hc : ∀ l ∈ w, c "is_liking" [sq b2 (l.map D.int), .int o] = .ok (.bl (isLik l o))) : runD ⟨3, .sh, false, []⟩ N (b_is_world c) [sq b (w.map fun l => sq b2 (l.map D.int)), .int p, .int o] = .ok (.bl (isWorld w p o)) := by
  refine run_sh (o := .sh) rfl rfl (imm_bl _) ?_
  unfold env0
  rw [hN]
  show b_is_world c [some (.sh, sq b (w.map fun l => sq b2 (l.map D.int))), some (.sh, .int p), some (.sh, .int o), none] = _
  unfold b_is_world isWorld
  by_cases h : w.length = p
  · have h' : ((w.length : Int) = (p : Int)) := by omega
    refine seq_nx (env' := [some (.sh, sq b (w.map fun l => sq b2 (l.map D.int))), some (.sh, .int p), some (.sh, .int o), none]) (by simp [setS, cat_ok, frzE_run, ifS, andT, orT, notT, truE, truD, blT, cmpE, cmpD, subE, subS, varE, binE, blE, binD, negE, notE, andE, orE, chainE, retS, appS, augS, drpS, asgT, callV, evsE, tupV, lstV, litE, fldE, okArgs, Ow.ok, Ow.isSh, Ow.flat, sliE, partE, partD, sliD, mm2E, mm2D, rgE, rgD, isiE, forT, isD, idxE, h']) ?_
    have src : (Src.seq (frzE (varE 0))).run [some (.sh, sq b (w.map fun l => sq b2 (l.map D.int))), some (.sh, .int p), some (.sh, .int o), none] = .ok (w.map fun l => sq b2 (l.map D.int)) := seq_run (s := (.sh, sq b (w.map fun l => sq b2 (l.map D.int)))) (by simp [varE]) items_sq
    have key := forG_any (st := set1 3) (body := is_world_l1b c) (fun env => ∃ s3, env = [some (.sh, sq b (w.map fun l => sq b2 (l.map D.int))), some (.sh, .int p), some (.sh, .int o), s3]) (fun l => sq b2 (l.map D.int)) (fun l => !isLik l o) (.sh, .bl false) (xs := w) (env := [some (.sh, sq b (w.map fun l => sq b2 (l.map D.int))), some (.sh, .int p), some (.sh, .int o), none]) (fun l hl env h => by
      obtain ⟨s3, rfl⟩ := h
      refine ⟨_, by simp; rfl, fun hp => ⟨_, .inl (by simp at hp; simp [is_world_l1b, setS, cat_ok, frzE_run, ifS, andT, orT, notT, truE, truD, blT, cmpE, cmpD, subE, subS, varE, binE, blE, binD, negE, notE, andE, orE, chainE, retS, appS, augS, drpS, asgT, callV, evsE, tupV, lstV, litE, fldE, okArgs, Ow.ok, Ow.isSh, Ow.flat, sliE, partE, partD, sliD, mm2E, mm2D, rgE, rgD, isiE, forT, isD, idxE, hc l hl, hp]; rfl), _, rfl⟩, fun hp => by simp at hp; simp [is_world_l1b, setS, cat_ok, frzE_run, ifS, andT, orT, notT, truE, truD, blT, cmpE, cmpD, subE, subS, varE, binE, blE, binD, negE, notE, andE, orE, chainE, retS, appS, augS, drpS, asgT, callV, evsE, tupV, lstV, litE, fldE, okArgs, Ow.ok, Ow.isSh, Ow.flat, sliE, partE, partD, sliD, mm2E, mm2D, rgE, rgD, isiE, forT, isD, idxE, hc l hl, hp]⟩) ⟨none, rfl⟩
    have e : (w.all fun l => isLik l o) = !(w.any fun l => !isLik l o) := by rw [List.all_eq_not_any_not]
    rw [e, decide_eq_true h, Bool.true_and]
    cases z : w.any fun l => !isLik l o with
    | true => exact seq_rt (for_rt src (key.1 z))
    | false =>
      obtain ⟨env', hf, s3, rfl⟩ := key.2 z
      refine seq_nx (for_nx src hf) ?_
      simp [setS, cat_ok, frzE_run, ifS, andT, orT, notT, truE, truD, blT, cmpE, cmpD, subE, subS, varE, binE, blE, binD, negE, notE, andE, orE, chainE, retS, appS, augS, drpS, asgT, callV, evsE, tupV, lstV, litE, fldE, okArgs, Ow.ok, Ow.isSh, Ow.flat, sliE, partE, partD, sliD, mm2E, mm2D, rgE, rgD, isiE, forT, isD, idxE]
  · have h' : ¬ ((w.length : Int) = (p : Int)) := by omega
    rw [decide_eq_false h, Bool.false_and]
    exact seq_rt (by simp [setS, cat_ok, frzE_run, ifS, andT, orT, notT, truE, truD, blT, cmpE, cmpD, subE, subS, varE, binE, blE, binD, negE, notE, andE, orE, chainE, retS, appS, augS, drpS, asgT, callV, evsE, tupV, lstV, litE, fldE, okArgs, Ow.ok, Ow.isSh, Ow.flat, sliE, partE, partD, sliD, mm2E, mm2D, rgE, rgD, isiE, forT, isD, idxE, h'])
theorem check_told_ok {c : Str → List D → R D} {N : List Str} (hN : N.length = 4) {b b2 : Bool} {told : List (List Nat)} {n o : Nat} (hn : told.length = n) (h60 : n < 1000) (hc : ∀ m ∈ told, c "is_set" [sq b2 (m.map nD), .int o] = .ok (.bl true)) : runD ⟨3, .sh, false, []⟩ N (b_check_told c) [sq b (told.map fun m => sq b2 (m.map nD)), .int n, .int o] = .ok .non := by
  have src : (Src.range (mm2E false (varB 1) (blE .len (varB 0)))).run [some (.sh, sq b (told.map fun m => sq b2 (m.map nD))), some (.sh, .int n), some (.sh, .int o), none] = .ok ((List.range n).map nD) := range_run (by simp [setS, cat_ok, frzE_run, ifS, andT, orT, notT, truE, truD, blT, cmpE, cmpD, subE, subS, varE, binE, blE, binD, negE, notE, andE, orE, chainE, retS, appS, augS, drpS, asgT, callV, evsE, tupV, lstV, litE, fldE, okArgs, Ow.ok, Ow.isSh, Ow.flat, sliE, partE, partD, sliD, mm2E, mm2D, rgE, rgD, isiE, forT, isD, idxE, hn]) (by omega)
  obtain ⟨env', hf, s3, rfl⟩ := forG_all (st := set1 3) (body := check_told_l1b c) (fun _ env => ∃ s3, env = [some (.sh, sq b (told.map fun m => sq b2 (m.map nD))), some (.sh, .int n), some (.sh, .int o), s3]) nD (xs := List.range n) (env := [some (.sh, sq b (told.map fun m => sq b2 (m.map nD))), some (.sh, .int n), some (.sh, .int o), none]) (fun pre x post env e h => by
    obtain ⟨s3, rfl⟩ := h
    have hx : x < told.length := by
      have : x ∈ List.range n := by rw [e]; simp
      rw [hn]
      simpa using this
    have := hc _ (at0_mem hx)
    refine ⟨_, by simp; rfl, _, .inl (by simp [check_told_l1b, setS, cat_ok, frzE_run, ifS, andT, orT, notT, truE, truD, blT, cmpE, cmpD, subE, subS, varE, binE, blE, binD, negE, notE, andE, orE, chainE, retS, appS, augS, drpS, asgT, callV, evsE, tupV, lstV, litE, fldE, okArgs, Ow.ok, Ow.isSh, Ow.flat, sliE, partE, partD, sliD, mm2E, mm2D, rgE, rgD, isiE, forT, isD, idxE, sub_of (f := fun m : List Nat => sq b2 (m.map nD)) hx, this]; rfl), _, rfl⟩) ⟨none, rfl⟩
  have run : b_check_told c [some (.sh, sq b (told.map fun m => sq b2 (m.map nD))), some (.sh, .int n), some (.sh, .int o), none] = .ok (.nx [some (.sh, sq b (told.map fun m => sq b2 (m.map nD))), some (.sh, .int n), some (.sh, .int o), s3]) := by
    unfold b_check_told
    refine seq_nx (for_nx src hf) ?_
    simp [setS, cat_ok, frzE_run, ifS, andT, orT, notT, truE, truD, blT, cmpE, cmpD, subE, subS, varE, binE, blE, binD, negE, notE, andE, orE, chainE, retS, appS, augS, drpS, asgT, callV, evsE, tupV, lstV, litE, fldE, okArgs, Ow.ok, Ow.isSh, Ow.flat, sliE, partE, partD, sliD, mm2E, mm2D, rgE, rgD, isiE, forT, isD, idxE, hn]
  rw [runD_ok rfl (by unfold env0; rw [hN]; exact run)]
  rfl
/-! ### rules -/
structure RuleOk (p o : Nat) (ws : List (List (List Int))) (told : List (List Nat)) : Prop where
  p1 : 1 ≤ p
  p4 : p ≤ 4
  o1 : 1 ≤ o
  o8 : o ≤ 8
  w1 : 1 ≤ ws.length
  w8 : ws.length ≤ 8
  wd : ∀ w ∈ ws, w.length = p ∧ ∀ l ∈ w, l.length = o ∧ dense l = l
  tn : told.length = ws.length
  ts : ∀ m ∈ told, GoodSet m o
  t24 : (told.map List.length).sum ≤ 24
theorem RuleOk.world {p o : Nat} {ws : List (List (List Int))} {told : List (List Nat)} (h : RuleOk p o ws told) {w : List (List Int)} (hw : w ∈ ws) : isWorld w p o = true := by
  obtain ⟨h1, h2⟩ := h.wd w hw
  unfold isWorld isLik
  rw [decide_eq_true h1, Bool.true_and, List.all_eq_true]
  intro l hl
  obtain ⟨h3, h4⟩ := h2 l hl
  rw [decide_eq_true h3, Bool.true_and]
  exact decide_eq_true h4.symm
def pairsOf (told : List (List Nat)) : List (Nat × Nat) := (List.range told.length).flatMap fun n => (at0 told n).map fun x => (x, n)
abbrev eP (p : Nat × Nat) : D := .tup [.int p.1, .int p.2]
def ruleD (p o : Nat) (ws : List (List (List Int))) (told : List (List Nat)) : D := .ins "Rule" [("people", .int p), ("outcomes", .int o), ("worlds", .tup (ws.map eW)), ("told", .tup (told.map eN)), ("pairs", .tup ((pairsOf told).map eP))]
theorem pairs_len (told : List (List Nat)) : (pairsOf told).length = (told.map List.length).sum := by
  unfold pairsOf
  rw [List.length_flatMap]
  congr 1
  refine List.ext_getElem (by simp) fun i h1 h2 => ?_
  have hi : i < told.length := by simpa using h1
  simp [at0, hi]
theorem imm_eP (p : Nat × Nat) : imm (eP p) = true := rfl
theorem imm_ruleD (p o : Nat) (ws : List (List (List Int))) (told : List (List Nat)) : imm (ruleD p o ws told) = true := by
  show (true && (true && (imms (ws.map eW) && (imms (told.map eN) && (imms ((pairsOf told).map eP) && true))))) = true
  rw [imms_of imm_eW, imms_of imm_eN, imms_of imm_eP]
  rfl
theorem fld_people {p o : Nat} {ws : List (List (List Int))} {told : List (List Nat)} : fldD "people" (.sh, ruleD p o ws told) = .ok (.sh, .int p) := rfl
theorem fld_outcomes {p o : Nat} {ws : List (List (List Int))} {told : List (List Nat)} : fldD "outcomes" (.sh, ruleD p o ws told) = .ok (.sh, .int o) := rfl
theorem fld_worlds {p o : Nat} {ws : List (List (List Int))} {told : List (List Nat)} : fldD "worlds" (.sh, ruleD p o ws told) = .ok (.sh, .tup (ws.map eW)) := rfl
theorem fld_told {p o : Nat} {ws : List (List (List Int))} {told : List (List Nat)} : fldD "told" (.sh, ruleD p o ws told) = .ok (.sh, .tup (told.map eN)) := rfl
theorem fld_pairs {p o : Nat} {ws : List (List (List Int))} {told : List (List Nat)} : fldD "pairs" (.sh, ruleD p o ws told) = .ok (.sh, .tup ((pairsOf told).map eP)) := rfl
theorem fldS_run {cls : Str → Option Ci} {f c : Str} {e : Ev} {fs : List (Str × D)} {l : DEnv} {ci : Ci} {d : D} (h1 : cls c = some ci) (h2 : f ∈ ci.no) (h3 : fs.length < 1000) (h4 : e (some (.ino, .ins c fs) :: l) = .ok (.sh, d)) : fldS cls 0 f e (some (.ino, .ins c fs) :: l) = .ok (.nx (some (.ino, .ins c (putD f d fs)) :: l)) := by
  unfold fldS
  rw [List.getElem?_cons_zero]
  simp only [h1]
  rw [if_pos (by simp [h2, h3]), h4, cat_ok, asSh_sh, cat_ok]
  rfl
theorem runC_ok {cf : Cf} {b : Ex} {ds : List D} {fs : List (Str × D)} {l : DEnv} (hl : ds.length = cf.n) (h : b (envC cf.name cf.N ds) = .ok (.nx (some (.ino, .ins cf.name fs) :: l))) (hi : immF fs = true) : runC cf b ds = .ok (.ins cf.name fs) := by
  unfold runC
  rw [if_pos hl, h]
  show (match (some (some (Ow.ino, D.ins cf.name fs)) : Option (Option Sl)) with
    | some (some (Ow.ino, D.ins c' fs)) => if decide (c' = cf.name) && immF fs then (R.ok (D.ins cf.name fs) : R D) else R.bad
    | _ => R.bad) = _
  simp [hi]
end PB
end
section
set_option Elab.async false
set_option linter.all false
set_option maxRecDepth 100000
set_option maxHeartbeats 1000000
open PySem PyD L2
namespace PB
theorem fldS_to {cls : Str → Option Ci} {f c : Str} {e : Ev} {fs fs' : List (Str × D)} {l : DEnv} {ci : Ci} {d : D} (h1 : cls c = some ci) (h2 : f ∈ ci.no) (h3 : fs.length < 1000) (h4 : e (some (.ino, .ins c fs) :: l) = .ok (.sh, d)) (h5 : putD f d fs = fs') : demS [] (fldS cls 0 f e) (some (.ino, .ins c fs) :: l) = .ok (.nx (some (.ino, .ins c fs') :: l)) := by
  rw [← h5]
  exact fldS_run h1 h2 h3 h4
abbrev sW (b1 b2 b3 : Bool) (ws : List (List (List Int))) : D := sq b1 (ws.map fun w => sq b2 (w.map fun l => sq b3 (l.map D.int)))
abbrev sT (b4 b5 : Bool) (told : List (List Nat)) : D := sq b4 (told.map fun m => sq b5 (m.map nD))
theorem rule_c1 {c : Str → List D → R D} {b2 b3 : Bool} {w : List (List Int)} (hw : w.length ≤ 1000) {a0 a1 a2 a3 a4 a5 a6 a7 a9 a10 : Option Sl} : I_Rule_c1 c [a0, a1, a2, a3, a4, a5, a6, a7, some (.sh, sq b2 (w.map fun l => sq b3 (l.map D.int))), a9, a10] = .ok (.lst .sh, .lst (w.map eI)) := by
  refine comp_all (fun l => sq b3 (l.map D.int)) eI w (seq_run (s := (.sh, sq b2 (w.map fun l => sq b3 (l.map D.int)))) (by simp [varE]) items_sq) (by omega) fun l hl => ⟨_, by simp; rfl, ?_⟩
  simp [setS, cat_ok, frzE_run, ifS, andT, orT, notT, truE, truD, blT, cmpE, cmpD, subE, subS, varE, binE, blE, binD, negE, notE, andE, orE, chainE, retS, appS, augS, drpS, asgT, callV, evsE, tupV, lstV, litE, fldE, okArgs, Ow.ok, Ow.isSh, Ow.flat, sliE, partE, partD, sliD, mm2E, mm2D, rgE, rgD, isiE, forT, isD, idxE]
theorem rule_c2 {c : Str → List D → R D} {b1 b2 b3 : Bool} {ws : List (List (List Int))} (h8 : ws.length ≤ 8) (hw : ∀ w ∈ ws, w.length ≤ 1000) {a0 a1 a2 a4 a5 a6 a7 a8 a9 a10 : Option Sl} : I_Rule_c2 c [a0, a1, a2, some (.sh, sW b1 b2 b3 ws), a4, a5, a6, a7, a8, a9, a10] = .ok (.lst .sh, .lst (ws.map eW)) := by
  refine comp_all (fun w => sq b2 (w.map fun l => sq b3 (l.map D.int))) eW ws (seq_run (s := (.sh, sW b1 b2 b3 ws)) (by simp [varE]) items_sq) (by omega) fun w hww => ⟨_, by simp; rfl, ?_⟩
  simp [setS, cat_ok, frzE_run, ifS, andT, orT, notT, truE, truD, blT, cmpE, cmpD, subE, subS, varE, binE, blE, binD, negE, notE, andE, orE, chainE, retS, appS, augS, drpS, asgT, callV, evsE, tupV, lstV, litE, fldE, okArgs, Ow.ok, Ow.isSh, Ow.flat, sliE, partE, partD, sliD, mm2E, mm2D, rgE, rgD, isiE, forT, isD, idxE, rule_c1 (hw w hww)]
theorem rule_c3 {c : Str → List D → R D} {b4 b5 : Bool} {told : List (List Nat)} (h8 : told.length ≤ 1000) {a0 a1 a2 a3 a5 a6 a7 a8 a9 a10 : Option Sl} : I_Rule_c3 c [a0, a1, a2, a3, some (.sh, sT b4 b5 told), a5, a6, a7, a8, a9, a10] = .ok (.lst .sh, .lst (told.map eN)) := by
  refine comp_all (fun m => sq b5 (m.map nD)) eN told (seq_run (s := (.sh, sT b4 b5 told)) (by simp [varE]) items_sq) (by omega) fun m hm => ⟨_, by simp; rfl, ?_⟩
  simp [setS, cat_ok, frzE_run, ifS, andT, orT, notT, truE, truD, blT, cmpE, cmpD, subE, subS, varE, binE, blE, binD, negE, notE, andE, orE, chainE, retS, appS, augS, drpS, asgT, callV, evsE, tupV, lstV, litE, fldE, okArgs, Ow.ok, Ow.isSh, Ow.flat, sliE, partE, partD, sliD, mm2E, mm2D, rgE, rgD, isiE, forT, isD, idxE]
/-- the pairs, as they are gathered -/
theorem rule_pairs {c : Str → List D → R D} {told : List (List Nat)} {fs : List (Str × D)} {P O W T : D} (ht : List.lookup ("told" : Str) fs = some (D.tup (told.map eN))) (h24 : (told.map List.length).sum ≤ 24) {s5 : Option Sl} : ∃ s5' s7', forG (set1 5) (I_Rule_l2b c) ((List.range told.length).map nD) [some (.ino, .ins "Rule" fs), some (.sh, P), some (.sh, O), some (.sh, W), some (.sh, T), s5, some (.lst .sh, .lst []), none, none, none, none] = .ok (.nx [some (.ino, .ins "Rule" fs), some (.sh, P), some (.sh, O), some (.sh, W), some (.sh, T), s5', some (.lst .sh, .lst ((pairsOf told).map eP)), s7', none, none, none]) := by
  have tot : (pairsOf told).length ≤ 24 := by rw [pairs_len]; exact h24
  obtain ⟨env', hf, s5', s7', rfl⟩ := forG_all (st := set1 5) (body := I_Rule_l2b c) (fun pre env => ∃ s5 s7, env = [some (.ino, .ins "Rule" fs), some (.sh, P), some (.sh, O), some (.sh, W), some (.sh, T), s5, some (.lst .sh, .lst ((pre.flatMap fun n => (at0 told n).map fun x => (x, n)).map eP)), s7, none, none, none]) nD (xs := List.range told.length) (env := [some (.ino, .ins "Rule" fs), some (.sh, P), some (.sh, O), some (.sh, W), some (.sh, T), s5, some (.lst .sh, .lst []), none, none, none, none]) (fun pre n post env e h => by
    obtain ⟨s5, s7, rfl⟩ := h
    have hn : n < told.length := by
      have : n ∈ List.range told.length := by rw [e]; simp
      simpa using this
    have tote : pairsOf told = (pre.flatMap fun n => (at0 told n).map fun x => (x, n)) ++ ((at0 told n).map (fun x => (x, n)) ++ post.flatMap fun n => (at0 told n).map fun x => (x, n)) := by
      unfold pairsOf
      rw [e, List.flatMap_append, List.flatMap_cons]
    refine ⟨[some (.ino, .ins "Rule" fs), some (.sh, P), some (.sh, O), some (.sh, W), some (.sh, T), some (.sh, .int n), some (.lst .sh, .lst ((pre.flatMap fun n => (at0 told n).map fun x => (x, n)).map eP)), s7, none, none, none], by simp, ?_⟩
    obtain ⟨env', hf, s7', rfl⟩ := forG_all (st := set1 7) (body := I_Rule_l3b c) (fun pre2 env => ∃ s7, env = [some (.ino, .ins "Rule" fs), some (.sh, P), some (.sh, O), some (.sh, W), some (.sh, T), some (.sh, .int n), some (.lst .sh, .lst (((pre.flatMap fun n => (at0 told n).map fun x => (x, n)) ++ pre2.map fun x => (x, n)).map eP)), s7, none, none, none]) nD (xs := at0 told n) (env := [some (.ino, .ins "Rule" fs), some (.sh, P), some (.sh, O), some (.sh, W), some (.sh, T), some (.sh, .int n), some (.lst .sh, .lst ((pre.flatMap fun n => (at0 told n).map fun x => (x, n)).map eP)), s7, none, none, none]) (fun pre2 x post2 env e2 h => by
      obtain ⟨s7, rfl⟩ := h
      have hz : ((pre.flatMap fun n => (at0 told n).map fun x => (x, n)) ++ pre2.map fun x => (x, n)).length < sizeLine := by
        have : ((pre.flatMap fun n => (at0 told n).map fun x => (x, n)) ++ pre2.map fun x => (x, n)).length ≤ 24 := by
          rw [tote, e2] at tot
          simp only [List.length_append, List.length_map, List.length_cons] at tot ⊢
          omega
        rw [sl_eq]; omega
      have hz' : decide ((((pre.flatMap fun n => (at0 told n).map fun x => (x, n)) ++ pre2.map fun x => (x, n)).map eP).length < sizeLine) = true := decide_eq_true (by rw [List.length_map]; exact hz)
      refine ⟨[some (.ino, .ins "Rule" fs), some (.sh, P), some (.sh, O), some (.sh, W), some (.sh, T), some (.sh, .int n), some (.lst .sh, .lst (((pre.flatMap fun n => (at0 told n).map fun x => (x, n)) ++ pre2.map fun x => (x, n)).map eP)), some (.sh, nD x), none, none, none], by simp, [some (.ino, .ins "Rule" fs), some (.sh, P), some (.sh, O), some (.sh, W), some (.sh, T), some (.sh, .int n), some (.lst .sh, .lst (((pre.flatMap fun n => (at0 told n).map fun x => (x, n)) ++ (pre2 ++ [x]).map fun x => (x, n)).map eP)), some (.sh, nD x), none, none, none], .inl ?_, _, rfl⟩
      generalize hacc : ((pre.flatMap fun n => (at0 told n).map fun x => (x, n)) ++ pre2.map fun x => (x, n)) = acc at hz'
      have ea : ((pre.flatMap fun n => (at0 told n).map fun x => (x, n)) ++ (pre2 ++ [x]).map fun x => (x, n)) = acc ++ [(x, n)] := by rw [← hacc, List.map_append, ← List.append_assoc]; rfl
      rw [ea, List.map_append]
      have t2 : 2 ≤ sizeLine := by decide
      simp only [I_Rule_l3b, seqV_cons, seqV_nil, demS_eq, dem_cons, dem_nil, dem1_succ, dem1_zero]
      unfold appS
      have hz2 : acc.length < sizeLine := by
        have := of_decide_eq_true hz'
        rwa [List.length_map] at this
      simp [setS, cat_ok, frzE_run, ifS, andT, orT, notT, truE, truD, blT, cmpE, cmpD, subE, subS, varE, binE, blE, binD, negE, notE, andE, orE, chainE, retS, appS, augS, drpS, asgT, callV, evsE, tupV, lstV, litE, fldE, okArgs, Ow.ok, Ow.isSh, Ow.flat, sliE, partE, partD, sliD, mm2E, mm2D, rgE, rgD, isiE, forT, isD, idxE, t2, hz2]) ⟨s7, by simp⟩
    refine ⟨_, .inl ?_, some (.sh, .int n), s7', rfl⟩
    unfold I_Rule_l2b
    have src : (Src.seq (frzE (subS (fldE "told" (varB 0)) (varE 5)))).run [some (.ino, .ins "Rule" fs), some (.sh, P), some (.sh, O), some (.sh, W), some (.sh, T), some (.sh, .int n), some (.lst .sh, .lst ((pre.flatMap fun n => (at0 told n).map fun x => (x, n)).map eP)), s7, none, none, none] = .ok ((at0 told n).map nD) := by
      refine seq_run (s := (.sh, eN (at0 told n))) ?_ rfl
      simp [setS, cat_ok, frzE_run, ifS, andT, orT, notT, truE, truD, blT, cmpE, cmpD, subE, subS, varE, binE, blE, binD, negE, notE, andE, orE, chainE, retS, appS, augS, drpS, asgT, callV, evsE, tupV, lstV, litE, fldE, okArgs, Ow.ok, Ow.isSh, Ow.flat, sliE, partE, partD, sliD, mm2E, mm2D, rgE, rgD, isiE, forT, isD, idxE, fldD, ht, sub_ofT (f := eN) hn]
    refine seq_nx (for_nx src hf) ?_
    rw [seqV_nil, List.flatMap_append, List.flatMap_singleton]) ⟨s5, none, rfl⟩
  exact ⟨s5', s7', hf⟩
theorem rule_ok {c : Str → List D → R D} {cl : Str → Option Ci} {cf : Cf} (h1 : cf.name = "Rule") (h2 : cf.n = 4) (h3 : cf.N.length = 11) (hcl : cl "Rule" = some ⟨["people", "outcomes", "worlds", "told", "pairs"]⟩) {b1 b2 b3 b4 b5 : Bool} {p o : Nat} {ws : List (List (List Int))} {told : List (List Nat)} (h : RuleOk p o ws told)
    (hc1 : ∀ w ∈ ws, c "is_world" [sq b2 (w.map fun l => sq b3 (l.map D.int)), .int p, .int o] = .ok (.bl true)) (hc2 : c "check_told" [sT b4 b5 told, .int ws.length, .int o] = .ok .non) : runC cf (b_Rule c cl) [.int p, .int o, sW b1 b2 b3 ws, sT b4 b5 told] = .ok (ruleD p o ws told) := by
  have hi := imm_ruleD p o ws told
  have e := fun l => runC_ok (cf := cf) (b := b_Rule c cl) (ds := [.int p, .int o, sW b1 b2 b3 ws, sT b4 b5 told]) (l := l) (fs := [("people", .int p), ("outcomes", .int o), ("worlds", .tup (ws.map eW)), ("told", .tup (told.map eN)), ("pairs", .tup ((pairsOf told).map eP))])
  rw [h1] at e
  have q1 : (1 : Int) ≤ p := by have := h.p1; omega
  have q2 : (p : Int) ≤ 4 := by have := h.p4; omega
  have q3 : (1 : Int) ≤ o := by have := h.o1; omega
  have q4 : (o : Int) ≤ 8 := by have := h.o8; omega
  have q5 : (1 : Int) ≤ ws.length := by have := h.w1; omega
  have q6 : (ws.length : Int) ≤ 8 := by have := h.w8; omega
  have hw : ∀ w ∈ ws, w.length ≤ 1000 := fun w hw => by have := (h.wd w hw).1; have := h.p4; omega
  have e2 : envC "Rule" cf.N [.int p, .int o, sW b1 b2 b3 ws, sT b4 b5 told] = [some (.ino, .ins "Rule" []), some (.sh, .int p), some (.sh, .int o), some (.sh, sW b1 b2 b3 ws), some (.sh, sT b4 b5 told), none, none, none, none, none, none] := by
    unfold envC env0
    rw [List.length_drop, h3]
    rfl
  rw [e2] at e
  obtain ⟨env1, f1, s5, rfl⟩ := forG_all (st := set1 5) (body := I_Rule_l1b c) (fun _ env => ∃ s5, env = [some (.ino, .ins "Rule" []), some (.sh, .int p), some (.sh, .int o), some (.sh, sW b1 b2 b3 ws), some (.sh, sT b4 b5 told), s5, none, none, none, none, none]) nD (xs := List.range ws.length) (env := [some (.ino, .ins "Rule" []), some (.sh, .int p), some (.sh, .int o), some (.sh, sW b1 b2 b3 ws), some (.sh, sT b4 b5 told), none, none, none, none, none, none]) (fun pre x post env e h => by
    obtain ⟨s3, rfl⟩ := h
    have hx : x < ws.length := by
      have : x ∈ List.range ws.length := by rw [e]; simp
      simpa using this
    have := hc1 _ (at0_mem hx)
    refine ⟨_, by simp; rfl, _, .inl (by simp [I_Rule_l1b, setS, cat_ok, frzE_run, ifS, andT, orT, notT, truE, truD, blT, cmpE, cmpD, subE, subS, varE, binE, blE, binD, negE, notE, andE, orE, chainE, retS, appS, augS, drpS, asgT, callV, evsE, tupV, lstV, litE, fldE, okArgs, Ow.ok, Ow.isSh, Ow.flat, sliE, partE, partD, sliD, mm2E, mm2D, rgE, rgD, isiE, forT, isD, idxE, sub_of (f := fun w : List (List Int) => sq b2 (w.map fun l => sq b3 (l.map D.int))) hx, this]; rfl), _, rfl⟩) ⟨none, rfl⟩
  obtain ⟨s5', s7', f2⟩ := rule_pairs (c := c) (told := told) (fs := [("people", .int p), ("outcomes", .int o), ("worlds", .tup (ws.map eW)), ("told", .tup (told.map eN))]) (P := .int p) (O := .int o) (W := sW b1 b2 b3 ws) (T := sT b4 b5 told) rfl h.t24 (s5 := s5)
  refine e [some (.sh, .int p), some (.sh, .int o), some (.sh, sW b1 b2 b3 ws), some (.sh, sT b4 b5 told), s5', some (.lst .sh, .lst ((pairsOf told).map eP)), s7', none, none, none] (by rw [h2]; rfl) ?_ (by
    have := hi
    unfold ruleD imm at this
    exact this)
  unfold b_Rule
  refine seq_nx (by simp [setS, cat_ok, frzE_run, ifS, andT, orT, notT, truE, truD, blT, cmpE, cmpD, subE, subS, varE, binE, blE, binD, negE, notE, andE, orE, chainE, retS, appS, augS, drpS, asgT, callV, evsE, tupV, lstV, litE, fldE, okArgs, Ow.ok, Ow.isSh, Ow.flat, sliE, partE, partD, sliD, mm2E, mm2D, rgE, rgD, isiE, forT, isD, idxE, q1, q2]; rfl) ?_
  refine seq_nx (by simp [setS, cat_ok, frzE_run, ifS, andT, orT, notT, truE, truD, blT, cmpE, cmpD, subE, subS, varE, binE, blE, binD, negE, notE, andE, orE, chainE, retS, appS, augS, drpS, asgT, callV, evsE, tupV, lstV, litE, fldE, okArgs, Ow.ok, Ow.isSh, Ow.flat, sliE, partE, partD, sliD, mm2E, mm2D, rgE, rgD, isiE, forT, isD, idxE, q3, q4]; rfl) ?_
  refine seq_nx (by simp [setS, cat_ok, frzE_run, ifS, andT, orT, notT, truE, truD, blT, cmpE, cmpD, subE, subS, varE, binE, blE, binD, negE, notE, andE, orE, chainE, retS, appS, augS, drpS, asgT, callV, evsE, tupV, lstV, litE, fldE, okArgs, Ow.ok, Ow.isSh, Ow.flat, sliE, partE, partD, sliD, mm2E, mm2D, rgE, rgD, isiE, forT, isD, idxE, q5, q6]; rfl) ?_
  refine seq_nx (for_nx (range_run (n := ws.length) (by simp [setS, cat_ok, frzE_run, ifS, andT, orT, notT, truE, truD, blT, cmpE, cmpD, subE, subS, varE, binE, blE, binD, negE, notE, andE, orE, chainE, retS, appS, augS, drpS, asgT, callV, evsE, tupV, lstV, litE, fldE, okArgs, Ow.ok, Ow.isSh, Ow.flat, sliE, partE, partD, sliD, mm2E, mm2D, rgE, rgD, isiE, forT, isD, idxE]) (by have := h.w8; omega)) f1) ?_
  refine seq_nx (by simp [setS, cat_ok, frzE_run, ifS, andT, orT, notT, truE, truD, blT, cmpE, cmpD, subE, subS, varE, binE, blE, binD, negE, notE, andE, orE, chainE, retS, appS, augS, drpS, asgT, callV, evsE, tupV, lstV, litE, fldE, okArgs, Ow.ok, Ow.isSh, Ow.flat, sliE, partE, partD, sliD, mm2E, mm2D, rgE, rgD, isiE, forT, isD, idxE, hc2]; rfl) ?_
  refine seq_nx (fldS_to (d := .int p) (fs' := [("people", .int p)]) hcl (by decide) (by simp) (by simp [setS, cat_ok, frzE_run, ifS, andT, orT, notT, truE, truD, blT, cmpE, cmpD, subE, subS, varE, binE, blE, binD, negE, notE, andE, orE, chainE, retS, appS, augS, drpS, asgT, callV, evsE, tupV, lstV, litE, fldE, okArgs, Ow.ok, Ow.isSh, Ow.flat, sliE, partE, partD, sliD, mm2E, mm2D, rgE, rgD, isiE, forT, isD, idxE]) rfl) ?_
  refine seq_nx (fldS_to (d := .int o) (fs' := [("people", .int p), ("outcomes", .int o)]) hcl (by decide) (by simp) (by simp [setS, cat_ok, frzE_run, ifS, andT, orT, notT, truE, truD, blT, cmpE, cmpD, subE, subS, varE, binE, blE, binD, negE, notE, andE, orE, chainE, retS, appS, augS, drpS, asgT, callV, evsE, tupV, lstV, litE, fldE, okArgs, Ow.ok, Ow.isSh, Ow.flat, sliE, partE, partD, sliD, mm2E, mm2D, rgE, rgD, isiE, forT, isD, idxE]) rfl) ?_
  refine seq_nx (fldS_to (d := .tup (ws.map eW)) (fs' := [("people", .int p), ("outcomes", .int o), ("worlds", .tup (ws.map eW))]) hcl (by decide) (by simp) (by simp [setS, cat_ok, frzE_run, ifS, andT, orT, notT, truE, truD, blT, cmpE, cmpD, subE, subS, varE, binE, blE, binD, negE, notE, andE, orE, chainE, retS, appS, augS, drpS, asgT, callV, evsE, tupV, lstV, litE, fldE, okArgs, Ow.ok, Ow.isSh, Ow.flat, sliE, partE, partD, sliD, mm2E, mm2D, rgE, rgD, isiE, forT, isD, idxE, rule_c2 h.w8 hw]) rfl) ?_
  refine seq_nx (fldS_to (d := .tup (told.map eN)) (fs' := [("people", .int p), ("outcomes", .int o), ("worlds", .tup (ws.map eW)), ("told", .tup (told.map eN))]) hcl (by decide) (by simp) (by simp [setS, cat_ok, frzE_run, ifS, andT, orT, notT, truE, truD, blT, cmpE, cmpD, subE, subS, varE, binE, blE, binD, negE, notE, andE, orE, chainE, retS, appS, augS, drpS, asgT, callV, evsE, tupV, lstV, litE, fldE, okArgs, Ow.ok, Ow.isSh, Ow.flat, sliE, partE, partD, sliD, mm2E, mm2D, rgE, rgD, isiE, forT, isD, idxE, rule_c3 (by have := h.tn; have := h.w8; omega : told.length ≤ 1000)]) rfl) ?_
  refine seq_nx (by simp [setS, cat_ok, frzE_run, ifS, andT, orT, notT, truE, truD, blT, cmpE, cmpD, subE, subS, varE, binE, blE, binD, negE, notE, andE, orE, chainE, retS, appS, augS, drpS, asgT, callV, evsE, tupV, lstV, litE, fldE, okArgs, Ow.ok, Ow.isSh, Ow.flat, sliE, partE, partD, sliD, mm2E, mm2D, rgE, rgD, isiE, forT, isD, idxE]; rfl) ?_
  have src : (Src.range (blE .len (fldE "told" (varB 0)))).run [some (Ow.ino, D.ins "Rule" [("people", .int p), ("outcomes", .int o), ("worlds", .tup (ws.map eW)), ("told", .tup (told.map eN))]), some (.sh, .int p), some (.sh, .int o), some (.sh, sW b1 b2 b3 ws), some (.sh, sT b4 b5 told), s5, some (.lst .sh, .lst []), none, none, none, none] = .ok ((List.range told.length).map nD) := by
    refine range_run (n := told.length) ?_ (by have := h.tn; have := h.w8; omega)
    have e0 : fldD "told" (Ow.ino, D.ins "Rule" [("people", .int p), ("outcomes", .int o), ("worlds", .tup (ws.map eW)), ("told", .tup (told.map eN))]) = .ok (.sh, .tup (told.map eN)) := rfl
    simp [setS, cat_ok, frzE_run, ifS, andT, orT, notT, truE, truD, blT, cmpE, cmpD, subE, subS, varE, binE, blE, binD, negE, notE, andE, orE, chainE, retS, appS, augS, drpS, asgT, callV, evsE, tupV, lstV, litE, fldE, okArgs, Ow.ok, Ow.isSh, Ow.flat, sliE, partE, partD, sliD, mm2E, mm2D, rgE, rgD, isiE, forT, isD, idxE, e0]
  refine seq_nx (for_nx src f2) ?_
  refine seq_nx (fldS_to (d := .tup ((pairsOf told).map eP)) (fs' := [("people", .int p), ("outcomes", .int o), ("worlds", .tup (ws.map eW)), ("told", .tup (told.map eN)), ("pairs", .tup ((pairsOf told).map eP))]) hcl (by decide) (by simp) (by simp [setS, cat_ok, frzE_run, ifS, andT, orT, notT, truE, truD, blT, cmpE, cmpD, subE, subS, varE, binE, blE, binD, negE, notE, andE, orE, chainE, retS, appS, augS, drpS, asgT, callV, evsE, tupV, lstV, litE, fldE, okArgs, Ow.ok, Ow.isSh, Ow.flat, sliE, partE, partD, sliD, mm2E, mm2D, rgE, rgD, isiE, forT, isD, idxE]) rfl) ?_
  have t24 : ¬ ((24 : Int) < (pairsOf told).length) := by rw [pairs_len]; have := h.t24; omega
  simp [setS, cat_ok, frzE_run, ifS, andT, orT, notT, truE, truD, blT, cmpE, cmpD, subE, subS, varE, binE, blE, binD, negE, notE, andE, orE, chainE, retS, appS, augS, drpS, asgT, callV, evsE, tupV, lstV, litE, fldE, okArgs, Ow.ok, Ow.isSh, Ow.flat, sliE, partE, partD, sliD, mm2E, mm2D, rgE, rgD, isiE, forT, isD, idxE, t24]
end PB
end
section
set_option Elab.async false
set_option linter.all false
set_option maxRecDepth 100000
set_option maxHeartbeats 1000000
open PySem PyD L2
namespace PB
/-! ### books -/
abbrev eR (s : List (List Nat)) : D := .tup (s.map eN)
abbrev sR (b1 b2 b3 : Bool) (reach : List (List (List Nat))) : D := sq b1 (reach.map fun s => sq b2 (s.map fun m => sq b3 (m.map nD)))
def bookD (al : List Nat) (reach : List (List (List Nat))) : D := .ins "Book" [("allowed", eN al), ("reach", .tup (reach.map eR))]
theorem imm_eR (s : List (List Nat)) : imm (eR s) = true := imms_of imm_eN s
theorem imm_bookD (al : List Nat) (reach : List (List (List Nat))) : imm (bookD al reach) = true := by
  show (imms (al.map nD) && (imms (reach.map eR) && true)) = true
  rw [immsN, imms_of imm_eR]
  rfl
theorem fld_allowed {al : List Nat} {reach : List (List (List Nat))} : fldD "allowed" (.sh, bookD al reach) = .ok (.sh, eN al) := rfl
theorem fld_reach {al : List Nat} {reach : List (List (List Nat))} : fldD "reach" (.sh, bookD al reach) = .ok (.sh, .tup (reach.map eR)) := rfl
theorem book_c1 {c : Str → List D → R D} {b2 b3 : Bool} {s : List (List Nat)} (hs : s.length ≤ 1000) {a0 a1 a2 a4 : Option Sl} : I_Book_c1 c [a0, a1, a2, some (.sh, sq b2 (s.map fun m => sq b3 (m.map nD))), a4] = .ok (.lst .sh, .lst (s.map eN)) := by
  refine comp_all (fun m => sq b3 (m.map nD)) eN s (seq_run (s := (.sh, sq b2 (s.map fun m => sq b3 (m.map nD)))) (by simp [varE]) items_sq) (by omega) fun m hm => ⟨_, by simp; rfl, ?_⟩
  simp [setS, cat_ok, frzE_run, ifS, andT, orT, notT, truE, truD, blT, cmpE, cmpD, subE, subS, varE, binE, blE, binD, negE, notE, andE, orE, chainE, retS, appS, augS, drpS, asgT, callV, evsE, tupV, lstV, litE, fldE, okArgs, Ow.ok, Ow.isSh, Ow.flat, sliE, partE, partD, sliD, mm2E, mm2D, rgE, rgD, isiE, forT, isD, idxE]
theorem book_c2 {c : Str → List D → R D} {b1 b2 b3 : Bool} {reach : List (List (List Nat))} (h8 : reach.length ≤ 1000) (hw : ∀ s ∈ reach, s.length ≤ 1000) {a0 a1 a3 a4 : Option Sl} : I_Book_c2 c [a0, a1, some (.sh, sR b1 b2 b3 reach), a3, a4] = .ok (.lst .sh, .lst (reach.map eR)) := by
  refine comp_all (fun s => sq b2 (s.map fun m => sq b3 (m.map nD))) eR reach (seq_run (s := (.sh, sR b1 b2 b3 reach)) (by simp [varE]) items_sq) (by omega) fun s hs => ⟨_, by simp; rfl, ?_⟩
  simp [setS, cat_ok, frzE_run, ifS, andT, orT, notT, truE, truD, blT, cmpE, cmpD, subE, subS, varE, binE, blE, binD, negE, notE, andE, orE, chainE, retS, appS, augS, drpS, asgT, callV, evsE, tupV, lstV, litE, fldE, okArgs, Ow.ok, Ow.isSh, Ow.flat, sliE, partE, partD, sliD, mm2E, mm2D, rgE, rgD, isiE, forT, isD, idxE, book_c1 (hw s hs)]
theorem book_ok {c : Str → List D → R D} {cl : Str → Option Ci} {cf : Cf} (h1 : cf.name = "Book") (h2 : cf.n = 2) (h3 : cf.N.length = 5) (hcl : cl "Book" = some ⟨["allowed", "reach"]⟩) {b0 b1 b2 b3 : Bool} {al : List Nat} {reach : List (List (List Nat))} (h8 : reach.length ≤ 1000) (hw : ∀ s ∈ reach, s.length ≤ 1000) : runC cf (b_Book c cl) [sq b0 (al.map nD), sR b1 b2 b3 reach] = .ok (bookD al reach) := by
  have hi := imm_bookD al reach
  have e := fun l => runC_ok (cf := cf) (b := b_Book c cl) (ds := [sq b0 (al.map nD), sR b1 b2 b3 reach]) (l := l) (fs := [("allowed", eN al), ("reach", .tup (reach.map eR))])
  rw [h1] at e
  have e2 : envC "Book" cf.N [sq b0 (al.map nD), sR b1 b2 b3 reach] = [some (.ino, .ins "Book" []), some (.sh, sq b0 (al.map nD)), some (.sh, sR b1 b2 b3 reach), none, none] := by
    unfold envC env0
    rw [List.length_drop, h3]
    rfl
  rw [e2] at e
  refine e [some (.sh, sq b0 (al.map nD)), some (.sh, sR b1 b2 b3 reach), none, none] (by rw [h2]; rfl) ?_ (by
    have := hi
    unfold bookD imm at this
    exact this)
  unfold b_Book
  refine seq_nx (fldS_to (d := eN al) (fs' := [("allowed", eN al)]) hcl (by decide) (by decide) (by simp [setS, cat_ok, frzE_run, ifS, andT, orT, notT, truE, truD, blT, cmpE, cmpD, subE, subS, varE, binE, blE, binD, negE, notE, andE, orE, chainE, retS, appS, augS, drpS, asgT, callV, evsE, tupV, lstV, litE, fldE, okArgs, Ow.ok, Ow.isSh, Ow.flat, sliE, partE, partD, sliD, mm2E, mm2D, rgE, rgD, isiE, forT, isD, idxE]) rfl) ?_
  refine seq_nx (fldS_to (d := .tup (reach.map eR)) (fs' := [("allowed", eN al), ("reach", .tup (reach.map eR))]) hcl (by decide) (by simp) (by simp [setS, cat_ok, frzE_run, ifS, andT, orT, notT, truE, truD, blT, cmpE, cmpD, subE, subS, varE, binE, blE, binD, negE, notE, andE, orE, chainE, retS, appS, augS, drpS, asgT, callV, evsE, tupV, lstV, litE, fldE, okArgs, Ow.ok, Ow.isSh, Ow.flat, sliE, partE, partD, sliD, mm2E, mm2D, rgE, rgD, isiE, forT, isD, idxE, book_c2 h8 hw]) rfl) ?_
  rfl
/-! ### told = due -/
theorem sub_get {α : Type} {b : Bool} {f : α → D} {xs : List α} {j : Nat} (h : j < xs.length) : subD (.sh, sq b (xs.map f)) (.int j) = .ok (.sh, f xs[j]) := by
  have := sub_sq (b := b) (f := f) h xs[j]
  rw [this]
  simp [h]
theorem sub_getT {α : Type} {f : α → D} {xs : List α} {j : Nat} (h : j < xs.length) : subD (.sh, .tup (xs.map f)) (.int j) = .ok (.sh, f xs[j]) := sub_get (b := false) h
theorem isi_int_str {i : Int} : isiD (.int i) "str" = .ok (.sh, .bl false) := rfl
theorem isi_int_int {i : Int} : isiD (.int i) "int" = .ok (.sh, .bl true) := rfl
theorem isi_int_bool {i : Int} : isiD (.int i) "bool" = .ok (.sh, .bl false) := rfl
theorem isi_sq_str {b : Bool} {xs : List D} : isiD (sq b xs) "str" = .ok (.sh, .bl false) := by cases b <;> rfl
theorem isi_sq_int {b : Bool} {xs : List D} : isiD (sq b xs) "int" = .ok (.sh, .bl false) := by cases b <;> rfl
theorem isi_tup_tuple {xs : List D} : isiD (.tup xs) "tuple" = .ok (.sh, .bl true) := rfl
theorem same_int {c : Str → List D → R D} {N : List Str} (hN : N.length = 3) {i : Int} : runD ⟨2, .sh, false, []⟩ N (b_law_same c) [.int i, .int i] = .ok (.bl true) := by
  refine run_sh (o := .sh) rfl rfl (imm_bl _) ?_
  unfold env0
  rw [hN]
  show b_law_same c [some (.sh, .int i), some (.sh, .int i), none] = _
  unfold b_law_same
  simp [setS, cat_ok, frzE_run, ifS, andT, orT, notT, truE, truD, blT, cmpE, cmpD, subE, subS, varE, binE, blE, binD, negE, notE, andE, orE, chainE, retS, appS, augS, drpS, asgT, callV, evsE, tupV, lstV, litE, fldE, okArgs, Ow.ok, Ow.isSh, Ow.flat, sliE, partE, partD, sliD, mm2E, mm2D, rgE, rgD, isiE, forT, isD, idxE, isi_int_str, isi_int_int, isi_int_bool]
theorem same_seq {c : Str → List D → R D} {N : List Str} (hN : N.length = 3) {α : Type} {b : Bool} {f g : α → D} {xs : List α} (hl : xs.length ≤ 1000000) (h : ∀ x ∈ xs, c "_law_same" [f x, g x] = .ok (.bl true)) : runD ⟨2, .sh, false, []⟩ N (b_law_same c) [.tup (xs.map f), sq b (xs.map g)] = .ok (.bl true) := by
  refine run_sh (o := .sh) rfl rfl (imm_bl _) ?_
  unfold env0
  rw [hN]
  show b_law_same c [some (.sh, .tup (xs.map f)), some (.sh, sq b (xs.map g)), none] = _
  obtain ⟨env', hf, s2, rfl⟩ := forG_all (st := set1 2) (body := law_same_l1b c) (fun _ env => ∃ s2, env = [some (.sh, .tup (xs.map f)), some (.sh, sq b (xs.map g)), s2]) nD (xs := List.range xs.length) (env := [some (.sh, .tup (xs.map f)), some (.sh, sq b (xs.map g)), none]) (fun pre x post env e h' => by
    obtain ⟨s2, rfl⟩ := h'
    have hx : x < xs.length := by
      have : x ∈ List.range xs.length := by rw [e]; simp
      simpa using this
    have hc := h _ (List.getElem_mem hx)
    refine ⟨_, by simp; rfl, _, .inl (by simp [law_same_l1b, setS, cat_ok, frzE_run, ifS, andT, orT, notT, truE, truD, blT, cmpE, cmpD, subE, subS, varE, binE, blE, binD, negE, notE, andE, orE, chainE, retS, appS, augS, drpS, asgT, callV, evsE, tupV, lstV, litE, fldE, okArgs, Ow.ok, Ow.isSh, Ow.flat, sliE, partE, partD, sliD, mm2E, mm2D, rgE, rgD, isiE, forT, isD, idxE, sub_get hx, sub_getT hx, hc]; rfl), _, rfl⟩) ⟨none, rfl⟩
  unfold b_law_same
  have src : (Src.range (blE .len (varB 1))).run [some (.sh, .tup (xs.map f)), some (.sh, sq b (xs.map g)), none] = .ok ((List.range xs.length).map nD) := range_run (by simp [setS, cat_ok, frzE_run, ifS, andT, orT, notT, truE, truD, blT, cmpE, cmpD, subE, subS, varE, binE, blE, binD, negE, notE, andE, orE, chainE, retS, appS, augS, drpS, asgT, callV, evsE, tupV, lstV, litE, fldE, okArgs, Ow.ok, Ow.isSh, Ow.flat, sliE, partE, partD, sliD, mm2E, mm2D, rgE, rgD, isiE, forT, isD, idxE]) (by omega)
  refine seq_nx (env' := [some (.sh, .tup (xs.map f)), some (.sh, sq b (xs.map g)), none]) (by cases b <;> rfl) ?_
  refine seq_nx (env' := [some (.sh, .tup (xs.map f)), some (.sh, sq b (xs.map g)), none]) (by cases b <;> rfl) ?_
  refine seq_nx (env' := [some (.sh, .tup (xs.map f)), some (.sh, sq b (xs.map g)), none]) (by cases b <;> rfl) ?_
  refine seq_nx (env' := [some (.sh, .tup (xs.map f)), some (.sh, sq b (xs.map g)), none]) (by simp [setS, cat_ok, frzE_run, ifS, andT, orT, notT, truE, truD, blT, cmpE, cmpD, subE, subS, varE, binE, blE, binD, negE, notE, andE, orE, chainE, retS, appS, augS, drpS, asgT, callV, evsE, tupV, lstV, litE, fldE, okArgs, Ow.ok, Ow.isSh, Ow.flat, sliE, partE, partD, sliD, mm2E, mm2D, rgE, rgD, isiE, forT, isD, idxE, isi_sq_str, isi_sq_int]) ?_
  refine seq_nx (env' := [some (.sh, .tup (xs.map f)), some (.sh, sq b (xs.map g)), none]) (by simp [setS, cat_ok, frzE_run, ifS, andT, orT, notT, truE, truD, blT, cmpE, cmpD, subE, subS, varE, binE, blE, binD, negE, notE, andE, orE, chainE, retS, appS, augS, drpS, asgT, callV, evsE, tupV, lstV, litE, fldE, okArgs, Ow.ok, Ow.isSh, Ow.flat, sliE, partE, partD, sliD, mm2E, mm2D, rgE, rgD, isiE, forT, isD, idxE, isi_sq_str, isi_sq_int]) ?_
  refine seq_nx (env' := [some (.sh, .tup (xs.map f)), some (.sh, sq b (xs.map g)), none]) (by simp [setS, cat_ok, frzE_run, ifS, andT, orT, notT, truE, truD, blT, cmpE, cmpD, subE, subS, varE, binE, blE, binD, negE, notE, andE, orE, chainE, retS, appS, augS, drpS, asgT, callV, evsE, tupV, lstV, litE, fldE, okArgs, Ow.ok, Ow.isSh, Ow.flat, sliE, partE, partD, sliD, mm2E, mm2D, rgE, rgD, isiE, forT, isD, idxE, isi_tup_tuple]) ?_
  refine seq_nx (for_nx src hf) ?_
  simp [setS, cat_ok, frzE_run, ifS, andT, orT, notT, truE, truD, blT, cmpE, cmpD, subE, subS, varE, binE, blE, binD, negE, notE, andE, orE, chainE, retS, appS, augS, drpS, asgT, callV, evsE, tupV, lstV, litE, fldE, okArgs, Ow.ok, Ow.isSh, Ow.flat, sliE, partE, partD, sliD, mm2E, mm2D, rgE, rgD, isiE, forT, isD, idxE]
/-! ### middles -/
def isMid (ws : List (List (List Int))) (told : List (List Nat)) (x : Nat) (mine yours : List Nat) : Bool := (List.range ws.length).all fun n => !(!decide (x ∈ at0 told n) && (onTop (at0 (at0 ws n) 0) x mine && onTop (at0 (at0 ws n) 1) x yours))
def mids (ws : List (List (List Int))) (told : List (List Nat)) (mine yours : List Nat) : List Nat := mine.filter fun x => decide (x ∈ yours) && isMid ws told x mine yours
abbrev OnTop (c : Str → List D → R D) (f : Str) : Prop := ∀ (l : List Int) (o : Nat) (ms : List Nat), o < l.length → (∀ m ∈ ms, m < l.length) → c f [eI l, .int o, eN ms] = .ok (.bl (onTop l o ms))
theorem two {α : Type} {w : List (List α)} (h : w.length = 2) : w = [at0 w 0, at0 w 1] := by
  match w, h with
  | [a, b], _ => rfl
theorem is_middle_ok {c : Str → List D → R D} {N : List Str} (hN : N.length = 7) (hc : OnTop c "on_top") {p o : Nat} {ws : List (List (List Int))} {told : List (List Nat)} (h : RuleOk p o ws told) (hp : p = 2) {x : Nat} {mine yours : List Nat} (hx : x < o) (hm : ∀ m ∈ mine, m < o) (hy : ∀ m ∈ yours, m < o) : runD ⟨4, .sh, false, []⟩ N (b_is_middle c) [ruleD p o ws told, .int x, eN mine, eN yours] = .ok (.bl (isMid ws told x mine yours)) := by
  refine run_sh (o := .sh) rfl rfl (imm_bl _) ?_
  unfold env0
  rw [hN]
  show b_is_middle c [some (.sh, ruleD p o ws told), some (.sh, .int x), some (.sh, eN mine), some (.sh, eN yours), none, none, none] = _
  have key := forG_any (st := set1 4) (body := is_middle_l1b c) (fun env => ∃ s4 s5 s6, env = [some (.sh, ruleD p o ws told), some (.sh, .int x), some (.sh, eN mine), some (.sh, eN yours), s4, s5, s6]) nD (fun n => !decide (x ∈ at0 told n) && (onTop (at0 (at0 ws n) 0) x mine && onTop (at0 (at0 ws n) 1) x yours)) (.sh, .bl false) (xs := List.range ws.length) (env := [some (.sh, ruleD p o ws told), some (.sh, .int x), some (.sh, eN mine), some (.sh, eN yours), none, none, none]) (fun n hn env h' => by
    obtain ⟨s4, s5, s6, rfl⟩ := h'
    have hn : n < ws.length := by simpa using hn
    have hn2 : n < told.length := by rw [h.tn]; exact hn
    obtain ⟨h1, h2⟩ := h.wd _ (at0_mem hn)
    have hw := two (h1.trans hp)
    generalize ha : at0 (at0 ws n) 0 = a at hw
    generalize hb : at0 (at0 ws n) 1 = b at hw
    have la : a.length = o := (h2 a (by rw [hw]; simp)).1
    have lb : b.length = o := (h2 b (by rw [hw]; simp)).1
    have ca := hc a x mine (by omega) (by rw [la]; exact hm)
    have cb := hc b x yours (by omega) (by rw [lb]; exact hy)
    have e1 : subD (.sh, .tup (ws.map eW)) (.int n) = .ok (.sh, .tup [eI a, eI b]) := by
      rw [sub_ofT hn, hw]; rfl
    have e2 : subD (.sh, .tup (told.map eN)) (.int n) = .ok (.sh, eN (at0 told n)) := sub_ofT hn2
    have e3 : inD (.int x) (eN (at0 told n)) = .ok (decide (x ∈ at0 told n)) := inD_eN
    have e4 : demS [4] (asgT [5, 6] (subS (fldE "worlds" (varB 0)) (varE 4))) [some (.sh, ruleD p o ws told), some (.sh, .int x), some (.sh, eN mine), some (.sh, eN yours), some (.sh, nD n), s5, s6] = .ok (.nx [some (.sh, ruleD p o ws told), some (.sh, .int x), some (.sh, eN mine), some (.sh, eN yours), some (.sh, nD n), some (.sh, eI a), some (.sh, eI b)]) := by
      simp [setS, cat_ok, frzE_run, ifS, andT, orT, notT, truE, truD, blT, cmpE, cmpD, subE, subS, varE, binE, blE, binD, negE, notE, andE, orE, chainE, retS, appS, augS, drpS, asgT, callV, evsE, tupV, lstV, litE, fldE, okArgs, Ow.ok, Ow.isSh, Ow.flat, sliE, partE, partD, sliD, mm2E, mm2D, rgE, rgD, isiE, forT, isD, idxE, fld_worlds, e1]
      rfl
    refine ⟨_, by simp; rfl, fun hq => ⟨[some (.sh, ruleD p o ws told), some (.sh, .int x), some (.sh, eN mine), some (.sh, eN yours), some (.sh, nD n), some (.sh, eI a), some (.sh, eI b)], .inl ?_, some (.sh, nD n), some (.sh, eI a), some (.sh, eI b), rfl⟩, fun hq => ?_⟩
    · unfold is_middle_l1b
      refine seq_nx e4 ?_
      by_cases hx : x ∈ at0 told n
      · simp [setS, cat_ok, frzE_run, ifS, andT, orT, notT, truE, truD, blT, cmpE, cmpD, subE, subS, varE, binE, blE, binD, negE, notE, andE, orE, chainE, retS, appS, augS, drpS, asgT, callV, evsE, tupV, lstV, litE, fldE, okArgs, Ow.ok, Ow.isSh, Ow.flat, sliE, partE, partD, sliD, mm2E, mm2D, rgE, rgD, isiE, forT, isD, idxE, fld_told, e2, e3, hx]
      · cases ta : onTop a x mine with
        | false => simp [setS, cat_ok, frzE_run, ifS, andT, orT, notT, truE, truD, blT, cmpE, cmpD, subE, subS, varE, binE, blE, binD, negE, notE, andE, orE, chainE, retS, appS, augS, drpS, asgT, callV, evsE, tupV, lstV, litE, fldE, okArgs, Ow.ok, Ow.isSh, Ow.flat, sliE, partE, partD, sliD, mm2E, mm2D, rgE, rgD, isiE, forT, isD, idxE, fld_told, e2, e3, hx, ca, ta]
        | true =>
          have tb : onTop b x yours = false := by simpa [hx, ta] using hq
          simp [setS, cat_ok, frzE_run, ifS, andT, orT, notT, truE, truD, blT, cmpE, cmpD, subE, subS, varE, binE, blE, binD, negE, notE, andE, orE, chainE, retS, appS, augS, drpS, asgT, callV, evsE, tupV, lstV, litE, fldE, okArgs, Ow.ok, Ow.isSh, Ow.flat, sliE, partE, partD, sliD, mm2E, mm2D, rgE, rgD, isiE, forT, isD, idxE, fld_told, e2, e3, hx, ca, ta, cb, tb]
    · unfold is_middle_l1b
      refine seq_nx e4 ?_
      have hx : x ∉ at0 told n ∧ onTop a x mine = true ∧ onTop b x yours = true := by simpa using hq
      simp [setS, cat_ok, frzE_run, ifS, andT, orT, notT, truE, truD, blT, cmpE, cmpD, subE, subS, varE, binE, blE, binD, negE, notE, andE, orE, chainE, retS, appS, augS, drpS, asgT, callV, evsE, tupV, lstV, litE, fldE, okArgs, Ow.ok, Ow.isSh, Ow.flat, sliE, partE, partD, sliD, mm2E, mm2D, rgE, rgD, isiE, forT, isD, idxE, fld_told, e2, e3, hx.1, ca, hx.2.1, cb, hx.2.2]) ⟨none, none, none, rfl⟩
  have src : (Src.range (blE .len (fldE "worlds" (varB 0)))).run [some (.sh, ruleD p o ws told), some (.sh, .int x), some (.sh, eN mine), some (.sh, eN yours), none, none, none] = .ok ((List.range ws.length).map nD) := range_run (by simp [setS, cat_ok, frzE_run, ifS, andT, orT, notT, truE, truD, blT, cmpE, cmpD, subE, subS, varE, binE, blE, binD, negE, notE, andE, orE, chainE, retS, appS, augS, drpS, asgT, callV, evsE, tupV, lstV, litE, fldE, okArgs, Ow.ok, Ow.isSh, Ow.flat, sliE, partE, partD, sliD, mm2E, mm2D, rgE, rgD, isiE, forT, isD, idxE, fld_worlds]) (by have := h.w8; omega)
  unfold b_is_middle isMid
  rw [List.all_eq_not_any_not]
  simp only [Bool.not_not]
  cases z : (List.range ws.length).any fun n => !decide (x ∈ at0 told n) && (onTop (at0 (at0 ws n) 0) x mine && onTop (at0 (at0 ws n) 1) x yours) with
  | true => exact seq_rt (for_rt src (key.1 z))
  | false =>
    obtain ⟨env', hf, s4, s5, s6, rfl⟩ := key.2 z
    refine seq_nx (for_nx src hf) ?_
    simp [setS, cat_ok, frzE_run, ifS, andT, orT, notT, truE, truD, blT, cmpE, cmpD, subE, subS, varE, binE, blE, binD, negE, notE, andE, orE, chainE, retS, appS, augS, drpS, asgT, callV, evsE, tupV, lstV, litE, fldE, okArgs, Ow.ok, Ow.isSh, Ow.flat, sliE, partE, partD, sliD, mm2E, mm2D, rgE, rgD, isiE, forT, isD, idxE]
/-- a book whose rows fit -/
structure BookOk (o n : Nat) (reach : List (List (List Nat))) : Prop where
  len : reach.length = n
  row : ∀ s ∈ reach, s.length = 2 ∧ ∀ m ∈ s, m.length ≤ o ∧ ∀ x ∈ m, x < o
theorem middles_ok {c : Str → List D → R D} {N : List Str} (hN : N.length = 7) {p o np : Nat} {ws : List (List (List Int))} {told : List (List Nat)} (ho : o ≤ 1000) {al : List Nat} {reach : List (List (List Nat))} (hb : BookOk o np reach)
    (hc : ∀ (x : Nat) (mine yours : List Nat), x < o → (∀ m ∈ mine, m < o) → (∀ m ∈ yours, m < o) → c "is_middle" [ruleD p o ws told, .int x, eN mine, eN yours] = .ok (.bl (isMid ws told x mine yours))) {i j : Nat} (hi : i < np) (hj : j < np) : runD ⟨4, .sh, false, ["pair", "other"]⟩ N (b_middles c) [ruleD p o ws told, bookD al reach, .int i, .int j] = .ok (eN (mids ws told (at0 (at0 reach i) 0) (at0 (at0 reach j) 1))) := by
  have hi' : i < reach.length := by rw [hb.len]; exact hi
  have hj' : j < reach.length := by rw [hb.len]; exact hj
  obtain ⟨i1, i2⟩ := hb.row _ (at0_mem hi')
  obtain ⟨j1, j2⟩ := hb.row _ (at0_mem hj')
  obtain ⟨m1, m2⟩ := i2 _ (at0_mem (by omega : 0 < (at0 reach i).length))
  obtain ⟨y1, y2⟩ := j2 _ (at0_mem (by omega : 1 < (at0 reach j).length))
  refine run_sh (o := .sh) rfl rfl (imm_eN _) ?_
  unfold env0
  rw [hN]
  show b_middles c [some (.sh, ruleD p o ws told), some (.sh, bookD al reach), some (.sh, .int i), some (.sh, .int j), none, none, none] = _
  have s1 : subD (.sh, .tup (reach.map eR)) (.int i) = .ok (.sh, eR (at0 reach i)) := sub_ofT hi'
  have s2 : subD (.sh, .tup (reach.map eR)) (.int j) = .ok (.sh, eR (at0 reach j)) := sub_ofT hj'
  have s3 : subD (.sh, eR (at0 reach i)) (.int 0) = .ok (.sh, eN (at0 (at0 reach i) 0)) := sub_ofT (j := 0) (by omega)
  have s4 : subD (.sh, eR (at0 reach j)) (.int 1) = .ok (.sh, eN (at0 (at0 reach j) 1)) := sub_ofT (j := 1) (by omega)
  generalize at0 (at0 reach i) 0 = mine at *
  generalize at0 (at0 reach j) 1 = yours at *
  unfold b_middles
  refine seq_nx (env' := [some (.sh, ruleD p o ws told), some (.sh, bookD al reach), some (.sh, .int i), some (.sh, .int j), some (.sh, eN mine), none, none]) (by simp [setS, cat_ok, frzE_run, ifS, andT, orT, notT, truE, truD, blT, cmpE, cmpD, subE, subS, varE, binE, blE, binD, negE, notE, andE, orE, chainE, retS, appS, augS, drpS, asgT, callV, evsE, tupV, lstV, litE, fldE, okArgs, Ow.ok, Ow.isSh, Ow.flat, sliE, partE, partD, sliD, mm2E, mm2D, rgE, rgD, isiE, forT, isD, idxE, fld_reach, s1, s3]) ?_
  refine seq_nx (env' := [some (.sh, ruleD p o ws told), some (.sh, bookD al reach), some (.sh, .int i), some (.sh, .int j), some (.sh, eN mine), some (.sh, eN yours), none]) (by simp [setS, cat_ok, frzE_run, ifS, andT, orT, notT, truE, truD, blT, cmpE, cmpD, subE, subS, varE, binE, blE, binD, negE, notE, andE, orE, chainE, retS, appS, augS, drpS, asgT, callV, evsE, tupV, lstV, litE, fldE, okArgs, Ow.ok, Ow.isSh, Ow.flat, sliE, partE, partD, sliD, mm2E, mm2D, rgE, rgD, isiE, forT, isD, idxE, fld_reach, s2, s4]) ?_
  have e : middles_c1 c [some (.sh, ruleD p o ws told), some (.sh, bookD al reach), some (.sh, .int i), some (.sh, .int j), some (.sh, eN mine), some (.sh, eN yours), none] = .ok (.lst .sh, .lst ((mids ws told mine yours).map nD)) := by
    refine comp_map nD (fun x => decide (x ∈ yours) && isMid ws told x mine yours) nD mine (seq_run (s := (.sh, eN mine)) (by simp [varE]) rfl) (by omega) fun x hx => ⟨_, by simp; rfl, ?_, fun _ => by simp [setS, cat_ok, frzE_run, ifS, andT, orT, notT, truE, truD, blT, cmpE, cmpD, subE, subS, varE, binE, blE, binD, negE, notE, andE, orE, chainE, retS, appS, augS, drpS, asgT, callV, evsE, tupV, lstV, litE, fldE, okArgs, Ow.ok, Ow.isSh, Ow.flat, sliE, partE, partD, sliD, mm2E, mm2D, rgE, rgD, isiE, forT, isD, idxE]⟩
    have e3 : inD (.int x) (eN yours) = .ok (decide (x ∈ yours)) := inD_eN
    have := hc x mine yours (m2 x hx) m2 y2
    by_cases hy : x ∈ yours
    · simp [setS, cat_ok, frzE_run, ifS, andT, orT, notT, truE, truD, blT, cmpE, cmpD, subE, subS, varE, binE, blE, binD, negE, notE, andE, orE, chainE, retS, appS, augS, drpS, asgT, callV, evsE, tupV, lstV, litE, fldE, okArgs, Ow.ok, Ow.isSh, Ow.flat, sliE, partE, partD, sliD, mm2E, mm2D, rgE, rgD, isiE, forT, isD, idxE, e3, hy, this]
    · simp [setS, cat_ok, frzE_run, ifS, andT, orT, notT, truE, truD, blT, cmpE, cmpD, subE, subS, varE, binE, blE, binD, negE, notE, andE, orE, chainE, retS, appS, augS, drpS, asgT, callV, evsE, tupV, lstV, litE, fldE, okArgs, Ow.ok, Ow.isSh, Ow.flat, sliE, partE, partD, sliD, mm2E, mm2D, rgE, rgD, isiE, forT, isD, idxE, e3, hy]
  refine seq_rt ?_
  simp [setS, cat_ok, frzE_run, ifS, andT, orT, notT, truE, truD, blT, cmpE, cmpD, subE, subS, varE, binE, blE, binD, negE, notE, andE, orE, chainE, retS, appS, augS, drpS, asgT, callV, evsE, tupV, lstV, litE, fldE, okArgs, Ow.ok, Ow.isSh, Ow.flat, sliE, partE, partD, sliD, mm2E, mm2D, rgE, rgD, isiE, forT, isD, idxE, e]
end PB
end
section
set_option Elab.async false
set_option linter.all false
set_option maxRecDepth 100000
set_option maxHeartbeats 1000000
open PySem PyD L2
namespace PB
/-! ### slices -/
theorem cut_mid {α : Type} {xs : List α} {a b : Nat} (h : a ≤ b) (hb : b ≤ xs.length) : cutL xs (some (a : Int)) (some (b : Int)) = (xs.drop a).take (b - a) := by
  unfold cutL
  rw [HT.sIx_nat, HT.sIx_nat, Nat.min_eq_left hb, Nat.min_eq_left (by omega)]
theorem cut_to {α : Type} {xs : List α} {b : Nat} : cutL xs none (some (b : Int)) = xs.take b := by
  have e1 : HT.sIx xs.length 0 none = 0 := rfl
  unfold cutL
  rw [e1, HT.sIx_nat, List.drop_zero, Nat.sub_zero]
  rcases Nat.le_total b xs.length with h | h
  · rw [Nat.min_eq_left h]
  · rw [Nat.min_eq_right h, List.take_of_length_le h, List.take_length]
theorem cut_from {α : Type} {xs : List α} {a : Nat} : cutL xs (some (a : Int)) none = xs.drop a := by
  have e2 : HT.sIx xs.length xs.length none = xs.length := rfl
  unfold cutL
  rw [e2, HT.sIx_nat]
  rcases Nat.le_total a xs.length with h | h
  · rw [Nat.min_eq_left h, List.take_of_length_le (by simp)]
  · rw [Nat.min_eq_right h, List.drop_of_length_le h]; simp
theorem cut_map {α β : Type} (f : α → β) (xs : List α) (lo hi : Option Int) : cutL (xs.map f) lo hi = (cutL xs lo hi).map f := by
  unfold cutL
  simp [List.map_take, List.map_drop]
/-! ### worlds that a law draws -/
theorem mulOk_sm {i : Int} {c : Nat} (h : c < 1000000) : mulOk i c = true := mulOk_rc _ _ ⟨Int.lt_of_lt_of_le (by decide : -(2 ^ 64) < (0 : Int)) (Int.natCast_nonneg c), Int.lt_trans (Int.ofNat_lt.2 h) (by decide)⟩
abbrev RowC (c : Str → List D → R D) (script : List Int) : Prop := ∀ (at' size : Nat), size < 1000000 → ∃ r : List Int, r.length = size ∧ (∀ x ∈ r, 0 ≤ x ∧ x < 5040) ∧ c "_law_row" [I script, .int at', .int size, .int 5040] = .ok (I r)
abbrev WOk (p o : Nat) (w : List (List Int)) : Prop := w.length = p ∧ ∀ l ∈ w, l.length = o ∧ dense l = l
theorem world_s0 {P O : Int} {c : Str → List D → R D} {S A : D} {r : List Int} {a5 a6 a7 a8 a9 : Option Sl} (mo : mulOk P O = true) (r3' : c "_law_row" [S, A, .int (P * O + P), .int 5040] = .ok (I r)) : demS [] (setS 4 (callV c "_law_row" ⟨4, .lst .sh, false, []⟩ [(varB 0), (varB 1), (binE .Add (binE .Mult (varB 2) (varB 3)) (varB 2)), (litE (.int 5040))])) [some (.sh, S), some (.sh, A), some (.sh, .int P), some (.sh, .int O), none, a5, a6, a7, a8, a9] = .ok (.nx [some (.sh, S), some (.sh, A), some (.sh, .int P), some (.sh, .int O), some (.lst .sh, I r), a5, a6, a7, a8, a9]) := by
  simp [setS, cat_ok, frzE_run, ifS, andT, orT, notT, truE, truD, blT, cmpE, cmpD, subE, subS, varE, binE, blE, binD, negE, notE, andE, orE, chainE, retS, appS, augS, drpS, asgT, callV, evsE, tupV, lstV, litE, fldE, okArgs, Ow.ok, Ow.isSh, Ow.flat, sliE, partE, partD, sliD, mm2E, mm2D, rgE, rgD, isiE, forT, isD, idxE, mo, r3']
theorem world_s1 {P O K Q spr : Int} {S A : D} {r : List Int} {a5 a7 a8 a9 : Option Sl} (mo : mulOk P O = true) (f1 : subD (.lst .sh, I r) (.int (P * O + K)) = .ok (.sh, .int Q)) (n2' : O + 2 ≠ 0) (hsp : 1 + Q.fmod (O + 2) = spr) : demS [] (setS 7 (binE .Add (litE (.int 1)) (binE .Mod (blE .int (subE (varB 4) (binE .Add (binE .Mult (varB 2) (varB 3)) (varB 6)))) (binE .Add (varB 3) (litE (.int 2)))))) [some (.sh, S), some (.sh, A), some (.sh, .int P), some (.sh, .int O), some (.lst .sh, I r), a5, some (.sh, .int K), a7, a8, a9] = .ok (.nx [some (.sh, S), some (.sh, A), some (.sh, .int P), some (.sh, .int O), some (.lst .sh, I r), a5, some (.sh, .int K), some (.sh, .int spr), a8, a9]) := by
  simp [setS, cat_ok, frzE_run, ifS, andT, orT, notT, truE, truD, blT, cmpE, cmpD, subE, subS, varE, binE, blE, binD, negE, notE, andE, orE, chainE, retS, appS, augS, drpS, asgT, callV, evsE, tupV, lstV, litE, fldE, okArgs, Ow.ok, Ow.isSh, Ow.flat, sliE, partE, partD, sliD, mm2E, mm2D, rgE, rgD, isiE, forT, isD, idxE, mo, f1, n2', hsp]
theorem world_s2 {P : D} {O K : Int} {S A : D} {r part : List Int} {a5 a7 a8 a9 : Option Sl} (m2 : mulOk K O = true) (f2 : cutL (r.map D.int) (some (K * O)) (some (K * O + O)) = part.map D.int) : demS [] (setS 8 (sliE (varB 4) (some (binE .Mult (varB 6) (varB 3))) (some (binE .Add (binE .Mult (varB 6) (varB 3)) (varB 3))))) [some (.sh, S), some (.sh, A), some (.sh, P), some (.sh, .int O), some (.lst .sh, I r), a5, some (.sh, .int K), a7, a8, a9] = .ok (.nx [some (.sh, S), some (.sh, A), some (.sh, P), some (.sh, .int O), some (.lst .sh, I r), a5, some (.sh, .int K), a7, some (.lst .sh, I part), a9]) := by
  simp [setS, cat_ok, frzE_run, ifS, andT, orT, notT, truE, truD, blT, cmpE, cmpD, subE, subS, varE, binE, blE, binD, negE, notE, andE, orE, chainE, retS, appS, augS, drpS, asgT, callV, evsE, tupV, lstV, litE, fldE, okArgs, Ow.ok, Ow.isSh, Ow.flat, sliE, partE, partD, sliD, mm2E, mm2D, rgE, rgD, isiE, forT, isD, idxE, m2, f2]
theorem world_ok {c : Str → List D → R D} {N : List Str} (hN : N.length = 10) {script : List Int} (hr : RowC c script) (hd : ∀ ps : List Int, ps.length < 60 → c "_law_dense" [I ps] = .ok (eI (dense ps))) {at' p o : Nat} (hp : p ≤ 4) (ho : o ≤ 8) : ∃ w, WOk p o w ∧ runD ⟨4, .sh, false, []⟩ N (b_law_world c) [I script, .int at', .int p, .int o] = .ok (eW w) := by
  have mo : mulOk (p : Int) (o : Int) = true := mulOk_sm (by omega)
  have mo2 : ∀ k : Nat, k ≤ p → mulOk (k : Int) (o : Int) = true := fun k hk => mulOk_sm (by omega)
  have hpo : p * o ≤ 32 := Nat.le_trans (Nat.mul_le_mul hp ho) (by decide)
  obtain ⟨r, r1, r2, r3⟩ := hr at' (p * o + p) (by omega)
  have key := forG_all (st := set1 6) (body := law_world_l1b c) (fun pre env => ∃ (w : List (List Int)) (s6 s7 s8 : Option Sl), env = [some (.sh, I script), some (.sh, .int at'), some (.sh, .int p), some (.sh, .int o), some (.lst .sh, I r), some (.lst .sh, .lst (w.map eI)), s6, s7, s8, none] ∧ w.length = pre.length ∧ ∀ l ∈ w, l.length = o ∧ dense l = l) nD (xs := List.range p) (env := [some (.sh, I script), some (.sh, .int at'), some (.sh, .int p), some (.sh, .int o), some (.lst .sh, I r), some (.lst .sh, .lst []), none, none, none, none]) (fun pre k post env e h => by
    obtain ⟨w, s6, s7, s8, rfl, w1, w2⟩ := h
    have hk : k < p := by
      have : k ∈ List.range p := by rw [e]; simp
      simpa using this
    have hpre : pre.length ≤ p := by
      have := congrArg List.length e
      simp at this
      omega
    have hko : k * o + o ≤ p * o := by
      have := Nat.mul_le_mul_right o (by omega : k + 1 ≤ p)
      rw [Nat.add_mul, Nat.one_mul] at this
      exact this
    have sp : 0 < 1 + (lk r (p * o + k)).fmod ((o : Int) + 2) := by
      have := Int.fmod_nonneg_of_pos (lk r (p * o + k)) (b := (o : Int) + 2) (by omega)
      omega
    generalize hsp : 1 + (lk r (p * o + k)).fmod ((o : Int) + 2) = spr at sp
    have f1 : subD (.lst .sh, I r) (.int ((p : Int) * o + k)) = .ok (.sh, .int (lk r (p * o + k))) := by
      have : ((p : Int) * o + k) = ((p * o + k : Nat) : Int) := by simp only [Int.natCast_add, Int.natCast_mul]
      rw [this]
      exact sub_IO (by omega)
    have f2 : cutL (r.map D.int) (some ((k : Int) * o)) (some ((k : Int) * o + o)) = ((r.drop (k * o)).take o).map D.int := by
      have e1 : ((k : Int) * o) = ((k * o : Nat) : Int) := by simp only [Int.natCast_add, Int.natCast_mul]
      have e2 : ((k : Int) * o + o) = ((k * o + o : Nat) : Int) := by simp only [Int.natCast_add, Int.natCast_mul]
      rw [e2, e1, cut_map, cut_mid (by omega) (by rw [r1]; omega)]
      rw [Nat.add_sub_cancel_left]
    have hl : ((r.drop (k * o)).take o).length = o := by
      rw [List.length_take, List.length_drop, r1]
      omega
    generalize (r.drop (k * o)).take o = part at f2 hl
    have n2 : ((o : Int) + 2 = 0) = False := by simp; omega
    have n2' : ((o : Int) + 2 ≠ 0) := by omega
    have n3 : spr ≠ 0 := by omega
    have hws : w.length < sizeLine := by rw [sl_eq]; omega
    have fc : law_world_c1 c [some (.sh, I script), some (.sh, .int at'), some (.sh, .int p), some (.sh, .int o), some (.lst .sh, I r), some (.lst .sh, .lst (w.map eI)), some (.sh, nD k), some (.sh, .int spr), some (.sh, I part), none] = .ok (.lst .sh, I (part.map fun x => x.fmod spr)) := by
      unfold I
      rw [List.map_map]
      refine comp_all D.int (fun x => .int (x.fmod spr)) part (seq_run (s := (.sh, I part)) (by simp [varE]) rfl) (by omega) fun x hx => ⟨_, by simp; rfl, ?_⟩
      simp [setS, cat_ok, frzE_run, ifS, andT, orT, notT, truE, truD, blT, cmpE, cmpD, subE, subS, varE, binE, blE, binD, negE, notE, andE, orE, chainE, retS, appS, augS, drpS, asgT, callV, evsE, tupV, lstV, litE, fldE, okArgs, Ow.ok, Ow.isSh, Ow.flat, sliE, partE, partD, sliD, mm2E, mm2D, rgE, rgD, isiE, forT, isD, idxE, n3]
    have fd := hd (part.map fun x => x.fmod spr) (by rw [List.length_map]; omega)
    refine ⟨_, by simp; rfl, [some (.sh, I script), some (.sh, .int at'), some (.sh, .int p), some (.sh, .int o), some (.lst .sh, I r), some (.lst .sh, .lst ((w ++ [dense (part.map fun x => x.fmod spr)]).map eI)), some (.sh, nD k), some (.sh, .int spr), some (.sh, I part), none], .inl ?_, _, _, _, _, rfl, by simp [w1], fun l hl' => ?_⟩
    · unfold law_world_l1b
      refine seq_nx (env' := [some (.sh, I script), some (.sh, .int at'), some (.sh, .int p), some (.sh, .int o), some (.lst .sh, I r), some (.lst .sh, .lst (w.map eI)), some (.sh, nD k), some (.sh, .int spr), s8, none]) (world_s1 mo f1 n2' hsp) ?_
      refine seq_nx (env' := [some (.sh, I script), some (.sh, .int at'), some (.sh, .int p), some (.sh, .int o), some (.lst .sh, I r), some (.lst .sh, .lst (w.map eI)), some (.sh, nD k), some (.sh, .int spr), some (.lst .sh, I part), none]) (world_s2 (mo2 k (by omega)) f2) ?_
      simp [setS, cat_ok, frzE_run, ifS, andT, orT, notT, truE, truD, blT, cmpE, cmpD, subE, subS, varE, binE, blE, binD, negE, notE, andE, orE, chainE, retS, appS, augS, drpS, asgT, callV, evsE, tupV, lstV, litE, fldE, okArgs, Ow.ok, Ow.isSh, Ow.flat, sliE, partE, partD, sliD, mm2E, mm2D, rgE, rgD, isiE, forT, isD, idxE, fc, fd, hws]
    · rcases List.mem_append.1 hl' with hl' | hl'
      · exact w2 l hl'
      · rw [List.mem_singleton.1 hl']
        exact ⟨by rw [dense_length, List.length_map, hl], dense_dense _⟩) ⟨[], none, none, none, rfl, rfl, fun _ z => nomatch z⟩
  obtain ⟨env', hf, w, s6, s7, s8, rfl, w1, w2⟩ := key
  refine ⟨w, ⟨by simpa using w1, w2⟩, run_sh (o := .sh) rfl rfl (imm_eW _) ?_⟩
  unfold env0
  rw [hN]
  show b_law_world c [some (.sh, I script), some (.sh, .int at'), some (.sh, .int p), some (.sh, .int o), none, none, none, none, none, none] = _
  unfold b_law_world
  have r3' : c "_law_row" [I script, .int at', .int ((p : Int) * o + p), .int 5040] = .ok (I r) := by rw [← r3]; simp only [Int.natCast_add, Int.natCast_mul]
  refine seq_nx (env' := [some (.sh, I script), some (.sh, .int at'), some (.sh, .int p), some (.sh, .int o), some (.lst .sh, I r), none, none, none, none, none]) (world_s0 mo r3') ?_
  refine seq_nx (env' := [some (.sh, I script), some (.sh, .int at'), some (.sh, .int p), some (.sh, .int o), some (.lst .sh, I r), some (.lst .sh, .lst []), none, none, none, none]) (by simp [setS, cat_ok, frzE_run, ifS, andT, orT, notT, truE, truD, blT, cmpE, cmpD, subE, subS, varE, binE, blE, binD, negE, notE, andE, orE, chainE, retS, appS, augS, drpS, asgT, callV, evsE, tupV, lstV, litE, fldE, okArgs, Ow.ok, Ow.isSh, Ow.flat, sliE, partE, partD, sliD, mm2E, mm2D, rgE, rgD, isiE, forT, isD, idxE]) ?_
  refine seq_nx (for_nx (range_run (n := p) (by simp) (by omega)) hf) ?_
  exact seq_rt (by simp [setS, cat_ok, frzE_run, ifS, andT, orT, notT, truE, truD, blT, cmpE, cmpD, subE, subS, varE, binE, blE, binD, negE, notE, andE, orE, chainE, retS, appS, augS, drpS, asgT, callV, evsE, tupV, lstV, litE, fldE, okArgs, Ow.ok, Ow.isSh, Ow.flat, sliE, partE, partD, sliD, mm2E, mm2D, rgE, rgD, isiE, forT, isD, idxE])
/-! ### the places -/
theorem pairs_ok {c : Str → List D → R D} {N : List Str} (hN : N.length = 4) {told : List (List Nat)} (h24 : (told.map List.length).sum ≤ 24) (hn : told.length ≤ 1000) : runD ⟨1, .lst .sh, false, []⟩ N (b_law_pairs c) [.lst (told.map eN)] = .ok (.lst ((pairsOf told).map eP)) := by
  have tot : (pairsOf told).length ≤ 24 := by rw [pairs_len]; exact h24
  refine run_lst rfl rfl (imms_of imm_eP _) ?_
  unfold env0
  rw [hN]
  show b_law_pairs c [some (.sh, .lst (told.map eN)), none, none, none] = _
  obtain ⟨env', hf, s2, s3, rfl⟩ := forG_all (st := set1 2) (body := law_pairs_l1b c) (fun pre env => ∃ s2 s3, env = [some (.sh, .lst (told.map eN)), some (.lst .sh, .lst ((pre.flatMap fun n => (at0 told n).map fun x => (x, n)).map eP)), s2, s3]) nD (xs := List.range told.length) (env := [some (.sh, .lst (told.map eN)), some (.lst .sh, .lst []), none, none]) (fun pre n post env e h => by
    obtain ⟨s2, s3, rfl⟩ := h
    have hn : n < told.length := by
      have : n ∈ List.range told.length := by rw [e]; simp
      simpa using this
    have tote : pairsOf told = (pre.flatMap fun n => (at0 told n).map fun x => (x, n)) ++ ((at0 told n).map (fun x => (x, n)) ++ post.flatMap fun n => (at0 told n).map fun x => (x, n)) := by
      unfold pairsOf
      rw [e, List.flatMap_append, List.flatMap_cons]
    refine ⟨[some (.sh, .lst (told.map eN)), some (.lst .sh, .lst ((pre.flatMap fun n => (at0 told n).map fun x => (x, n)).map eP)), some (.sh, nD n), s3], by simp, ?_⟩
    obtain ⟨env', hf, s7', rfl⟩ := forG_all (st := set1 3) (body := law_pairs_l2b c) (fun pre2 env => ∃ s3, env = [some (.sh, .lst (told.map eN)), some (.lst .sh, .lst (((pre.flatMap fun n => (at0 told n).map fun x => (x, n)) ++ pre2.map fun x => (x, n)).map eP)), some (.sh, nD n), s3]) nD (xs := at0 told n) (env := [some (.sh, .lst (told.map eN)), some (.lst .sh, .lst ((pre.flatMap fun n => (at0 told n).map fun x => (x, n)).map eP)), some (.sh, nD n), s3]) (fun pre2 x post2 env e2 h => by
      obtain ⟨s3, rfl⟩ := h
      have hz : ((pre.flatMap fun n => (at0 told n).map fun x => (x, n)) ++ pre2.map fun x => (x, n)).length < sizeLine := by
        have : ((pre.flatMap fun n => (at0 told n).map fun x => (x, n)) ++ pre2.map fun x => (x, n)).length ≤ 24 := by
          rw [tote, e2] at tot
          simp only [List.length_append, List.length_map, List.length_cons] at tot ⊢
          omega
        rw [sl_eq]; omega
      refine ⟨[some (.sh, .lst (told.map eN)), some (.lst .sh, .lst (((pre.flatMap fun n => (at0 told n).map fun x => (x, n)) ++ pre2.map fun x => (x, n)).map eP)), some (.sh, nD n), some (.sh, nD x)], by simp, [some (.sh, .lst (told.map eN)), some (.lst .sh, .lst (((pre.flatMap fun n => (at0 told n).map fun x => (x, n)) ++ (pre2 ++ [x]).map fun x => (x, n)).map eP)), some (.sh, nD n), some (.sh, nD x)], .inl ?_, _, rfl⟩
      generalize hacc : ((pre.flatMap fun n => (at0 told n).map fun x => (x, n)) ++ pre2.map fun x => (x, n)) = acc at hz
      have ea : ((pre.flatMap fun n => (at0 told n).map fun x => (x, n)) ++ (pre2 ++ [x]).map fun x => (x, n)) = acc ++ [(x, n)] := by rw [← hacc, List.map_append, ← List.append_assoc]; rfl
      rw [ea, List.map_append]
      have t2 : 2 ≤ sizeLine := by decide
      simp [law_pairs_l2b, setS, cat_ok, frzE_run, ifS, andT, orT, notT, truE, truD, blT, cmpE, cmpD, subE, subS, varE, binE, blE, binD, negE, notE, andE, orE, chainE, retS, appS, augS, drpS, asgT, callV, evsE, tupV, lstV, litE, fldE, okArgs, Ow.ok, Ow.isSh, Ow.flat, sliE, partE, partD, sliD, mm2E, mm2D, rgE, rgD, isiE, forT, isD, idxE, t2, hz]) ⟨s3, by simp⟩
    refine ⟨_, .inl ?_, some (.sh, nD n), s7', rfl⟩
    unfold law_pairs_l1b
    have src : (Src.seq (frzE (subS (varB 0) (varE 2)))).run [some (.sh, .lst (told.map eN)), some (.lst .sh, .lst ((pre.flatMap fun n => (at0 told n).map fun x => (x, n)).map eP)), some (.sh, nD n), s3] = .ok ((at0 told n).map nD) := by
      refine seq_run (s := (.sh, eN (at0 told n))) ?_ rfl
      simp [setS, cat_ok, frzE_run, ifS, andT, orT, notT, truE, truD, blT, cmpE, cmpD, subE, subS, varE, binE, blE, binD, negE, notE, andE, orE, chainE, retS, appS, augS, drpS, asgT, callV, evsE, tupV, lstV, litE, fldE, okArgs, Ow.ok, Ow.isSh, Ow.flat, sliE, partE, partD, sliD, mm2E, mm2D, rgE, rgD, isiE, forT, isD, idxE, sub_ofL (f := eN) hn]
    refine seq_nx (for_nx src hf) ?_
    rw [seqV_nil, List.flatMap_append, List.flatMap_singleton]) ⟨none, none, rfl⟩
  unfold b_law_pairs
  refine seq_nx (env' := [some (.sh, .lst (told.map eN)), some (.lst .sh, .lst []), none, none]) (by simp [setS, cat_ok, frzE_run, ifS, andT, orT, notT, truE, truD, blT, cmpE, cmpD, subE, subS, varE, binE, blE, binD, negE, notE, andE, orE, chainE, retS, appS, augS, drpS, asgT, callV, evsE, tupV, lstV, litE, fldE, okArgs, Ow.ok, Ow.isSh, Ow.flat, sliE, partE, partD, sliD, mm2E, mm2D, rgE, rgD, isiE, forT, isD, idxE]) ?_
  refine seq_nx (for_nx (range_run (n := told.length) (by simp [setS, cat_ok, frzE_run, ifS, andT, orT, notT, truE, truD, blT, cmpE, cmpD, subE, subS, varE, binE, blE, binD, negE, notE, andE, orE, chainE, retS, appS, augS, drpS, asgT, callV, evsE, tupV, lstV, litE, fldE, okArgs, Ow.ok, Ow.isSh, Ow.flat, sliE, partE, partD, sliD, mm2E, mm2D, rgE, rgD, isiE, forT, isD, idxE]) (by omega)) hf) ?_
  exact seq_rt (by simp [setS, cat_ok, frzE_run, ifS, andT, orT, notT, truE, truD, blT, cmpE, cmpD, subE, subS, varE, binE, blE, binD, negE, notE, andE, orE, chainE, retS, appS, augS, drpS, asgT, callV, evsE, tupV, lstV, litE, fldE, okArgs, Ow.ok, Ow.isSh, Ow.flat, sliE, partE, partD, sliD, mm2E, mm2D, rgE, rgD, isiE, forT, isD, idxE]; rfl)
end PB
end
section
set_option Elab.async false
set_option linter.all false
set_option maxRecDepth 100000
set_option maxHeartbeats 1000000
open PySem PyD L2
namespace PB
/-! ### below, stays, middles as the law tells them -/
theorem below_ok {c : Str → List D → R D} {N : List Str} (hN : N.length = 6) {p o : Nat} {ws : List (List (List Int))} (hw : ∀ w ∈ ws, WOk p o w) {kept : List Nat} (hk : ∀ x ∈ kept, x < o) (hl : kept.length ≤ 1000) {x n who : Nat} (hx : x < o) (hn : n < ws.length) (hwho : who < p) : ∃ ms : List Nat, (∀ m ∈ ms, m ∈ kept) ∧ ms.length ≤ kept.length ∧ runD ⟨4, .lst .sh, false, []⟩ N (b_law_below c) [.lst (ws.map eW), .lst (kept.map nD), eP (x, n), .int who] = .ok (.lst (ms.map nD)) := by
  obtain ⟨h1, h2⟩ := hw _ (at0_mem hn)
  have h3 := (h2 _ (at0_mem (by omega : who < (at0 ws n).length))).1
  have e1 : subD (.sh, .lst (ws.map eW)) (.int n) = .ok (.sh, eW (at0 ws n)) := sub_ofL hn
  have e2 : subD (.sh, eW (at0 ws n)) (.int who) = .ok (.sh, eI (at0 (at0 ws n) who)) := sub_ofT (by omega)
  have q1 : subD (.sh, eP (x, n)) (.int 1) = .ok (.sh, .int n) := rfl
  have q0 : subD (.sh, eP (x, n)) (.int 0) = .ok (.sh, .int x) := rfl
  generalize at0 (at0 ws n) who = l at *
  refine ⟨kept.filter fun m => decide (lk l m ≤ lk l x), fun m hm => (List.mem_filter.1 hm).1, List.length_filter_le _ _, run_lst rfl rfl (immsN _) ?_⟩
  unfold env0
  rw [hN]
  show b_law_below c [some (.sh, .lst (ws.map eW)), some (.sh, .lst (kept.map nD)), some (.sh, eP (x, n)), some (.sh, .int who), none, none] = _
  unfold b_law_below
  refine seq_nx (env' := [some (.sh, .lst (ws.map eW)), some (.sh, .lst (kept.map nD)), some (.sh, eP (x, n)), some (.sh, .int who), some (.sh, eI l), none]) (by simp [setS, cat_ok, frzE_run, ifS, andT, orT, notT, truE, truD, blT, cmpE, cmpD, subE, subS, varE, binE, blE, binD, negE, notE, andE, orE, chainE, retS, appS, augS, drpS, asgT, callV, evsE, tupV, lstV, litE, fldE, okArgs, Ow.ok, Ow.isSh, Ow.flat, sliE, partE, partD, sliD, mm2E, mm2D, rgE, rgD, isiE, forT, isD, idxE, q1, e1, e2]) ?_
  have e : law_below_c1 c [some (.sh, .lst (ws.map eW)), some (.sh, .lst (kept.map nD)), some (.sh, eP (x, n)), some (.sh, .int who), some (.sh, eI l), none] = .ok (.lst .sh, .lst ((kept.filter fun m => decide (lk l m ≤ lk l x)).map nD)) := by
    refine comp_map nD (fun m => decide (lk l m ≤ lk l x)) nD kept (seq_run (s := (.sh, .lst (kept.map nD))) (by simp [varE]) rfl) (by omega) fun m hm => ⟨_, by simp; rfl, ?_, fun _ => by simp [setS, cat_ok, frzE_run, ifS, andT, orT, notT, truE, truD, blT, cmpE, cmpD, subE, subS, varE, binE, blE, binD, negE, notE, andE, orE, chainE, retS, appS, augS, drpS, asgT, callV, evsE, tupV, lstV, litE, fldE, okArgs, Ow.ok, Ow.isSh, Ow.flat, sliE, partE, partD, sliD, mm2E, mm2D, rgE, rgD, isiE, forT, isD, idxE]⟩
    have := hk m hm
    simp [setS, cat_ok, frzE_run, ifS, andT, orT, notT, truE, truD, blT, cmpE, cmpD, subE, subS, varE, binE, blE, binD, negE, notE, andE, orE, chainE, retS, appS, augS, drpS, asgT, callV, evsE, tupV, lstV, litE, fldE, okArgs, Ow.ok, Ow.isSh, Ow.flat, sliE, partE, partD, sliD, mm2E, mm2D, rgE, rgD, isiE, forT, isD, idxE, q0, sub_eI (l := l) (j := m) (by omega), sub_eI (l := l) (j := x) (by omega)]
  exact seq_rt (by simp [setS, cat_ok, frzE_run, ifS, andT, orT, notT, truE, truD, blT, cmpE, cmpD, subE, subS, varE, binE, blE, binD, negE, notE, andE, orE, chainE, retS, appS, augS, drpS, asgT, callV, evsE, tupV, lstV, litE, fldE, okArgs, Ow.ok, Ow.isSh, Ow.flat, sliE, partE, partD, sliD, mm2E, mm2D, rgE, rgD, isiE, forT, isD, idxE, e])
theorem stays_ok {c : Str → List D → R D} {N : List Str} (hN : N.length = 4) (hc : OnTop c "_law_over") {o : Nat} {w : List (List Int)} (hw : WOk 2 o w) {x : Nat} {mine yours : List Nat} (hx : x < o) (hm : ∀ m ∈ mine, m < o) (hy : ∀ m ∈ yours, m < o) : runD ⟨3, .sh, false, []⟩ N (b_law_stays c) [eW w, .int x, eR [mine, yours]] = .ok (.bl (onTop (at0 w 0) x mine && onTop (at0 w 1) x yours)) := by
  have hw2 := two hw.1
  generalize ha : at0 w 0 = a at hw2
  generalize hb : at0 w 1 = b at hw2
  have la : a.length = o := (hw.2 a (by rw [hw2]; simp)).1
  have lb : b.length = o := (hw.2 b (by rw [hw2]; simp)).1
  have ca := hc a x mine (by omega) (by rw [la]; exact hm)
  have cb := hc b x yours (by omega) (by rw [lb]; exact hy)
  subst hw2
  refine run_sh (o := .sh) rfl rfl (imm_bl _) ?_
  unfold env0
  rw [hN]
  show b_law_stays c [some (.sh, eW [a, b]), some (.sh, .int x), some (.sh, eR [mine, yours]), none] = _
  unfold b_law_stays
  have e : law_stays_c1 c [some (.sh, eW [a, b]), some (.sh, .int x), some (.sh, eR [mine, yours]), none] = .ok (.lst .sh, .lst ([onTop a x mine, onTop b x yours].map D.bl)) := by
    refine comp_all nD (fun n => .bl (if n = 0 then onTop a x mine else onTop b x yours)) (List.range 2) (range_run (n := 2) (by simp [setS, cat_ok, frzE_run, ifS, andT, orT, notT, truE, truD, blT, cmpE, cmpD, subE, subS, varE, binE, blE, binD, negE, notE, andE, orE, chainE, retS, appS, augS, drpS, asgT, callV, evsE, tupV, lstV, litE, fldE, okArgs, Ow.ok, Ow.isSh, Ow.flat, sliE, partE, partD, sliD, mm2E, mm2D, rgE, rgD, isiE, forT, isD, idxE]) (by omega)) (by simp) fun n hn => ⟨_, by simp; rfl, ?_⟩
    have hn : n = 0 ∨ n = 1 := by have : n < 2 := by simpa using hn
                                  omega
    rcases hn with rfl | rfl
    · have s1 : subD (.sh, eW [a, b]) (nD 0) = .ok (.sh, eI a) := rfl
      have s2 : subD (.sh, eR [mine, yours]) (nD 0) = .ok (.sh, eN mine) := rfl
      simp [setS, cat_ok, frzE_run, ifS, andT, orT, notT, truE, truD, blT, cmpE, cmpD, subE, subS, varE, binE, blE, binD, negE, notE, andE, orE, chainE, retS, appS, augS, drpS, asgT, callV, evsE, tupV, lstV, litE, fldE, okArgs, Ow.ok, Ow.isSh, Ow.flat, sliE, partE, partD, sliD, mm2E, mm2D, rgE, rgD, isiE, forT, isD, idxE, s1, s2, ca]
    · have s1 : subD (.sh, eW [a, b]) (nD 1) = .ok (.sh, eI b) := rfl
      have s2 : subD (.sh, eR [mine, yours]) (nD 1) = .ok (.sh, eN yours) := rfl
      simp [setS, cat_ok, frzE_run, ifS, andT, orT, notT, truE, truD, blT, cmpE, cmpD, subE, subS, varE, binE, blE, binD, negE, notE, andE, orE, chainE, retS, appS, augS, drpS, asgT, callV, evsE, tupV, lstV, litE, fldE, okArgs, Ow.ok, Ow.isSh, Ow.flat, sliE, partE, partD, sliD, mm2E, mm2D, rgE, rgD, isiE, forT, isD, idxE, s1, s2, cb]
  have e2 : inD (.bl false) (.lst ([onTop a x mine, onTop b x yours].map D.bl)) = .ok (decide (false ∈ [onTop a x mine, onTop b x yours])) := inD_bls
  refine seq_rt ?_
  generalize onTop a x mine = u at *
  generalize onTop b x yours = v at *
  simp [setS, cat_ok, frzE_run, ifS, andT, orT, notT, truE, truD, blT, cmpE, cmpD, subE, subS, varE, binE, blE, binD, negE, notE, andE, orE, chainE, retS, appS, augS, drpS, asgT, callV, evsE, tupV, lstV, litE, fldE, okArgs, Ow.ok, Ow.isSh, Ow.flat, sliE, partE, partD, sliD, mm2E, mm2D, rgE, rgD, isiE, forT, isD, idxE, e, e2]
  cases u <;> cases v <;> rfl
theorem lmiddles_ok {c : Str → List D → R D} {N : List Str} (hN : N.length = 8) {o : Nat} {ws : List (List (List Int))} {told : List (List Nat)} {mine yours : List Nat} (hl : mine.length ≤ 1000) (hn : told.length = ws.length) (h8 : ws.length ≤ 1000) (hc : ∀ x ∈ mine, ∀ w ∈ ws, c "_law_stays" [eW w, .int x, eR [mine, yours]] = .ok (.bl (onTop (at0 w 0) x mine && onTop (at0 w 1) x yours))) : runD ⟨4, .lst .sh, false, []⟩ N (b_law_middles c) [.lst (ws.map eW), .lst (told.map eN), eN mine, eN yours] = .ok (.lst ((mids ws told mine yours).map nD)) := by
  refine run_lst rfl rfl (immsN _) ?_
  unfold env0
  rw [hN]
  show b_law_middles c [some (.sh, .lst (ws.map eW)), some (.sh, .lst (told.map eN)), some (.sh, eN mine), some (.sh, eN yours), none, none, none, none] = _
  obtain ⟨env', hf, s5, s6, s7, rfl⟩ := forG_all (st := set1 5) (body := law_middles_l1b c) (fun pre env => ∃ s5 s6 s7, env = [some (.sh, .lst (ws.map eW)), some (.sh, .lst (told.map eN)), some (.sh, eN mine), some (.sh, eN yours), some (.lst .sh, .lst ((pre.filter fun x => decide (x ∈ yours) && isMid ws told x mine yours).map nD)), s5, s6, s7]) nD (xs := mine) (env := [some (.sh, .lst (ws.map eW)), some (.sh, .lst (told.map eN)), some (.sh, eN mine), some (.sh, eN yours), some (.lst .sh, .lst []), none, none, none]) (fun pre x post env e h => by
    obtain ⟨s5, s6, s7, rfl⟩ := h
    have hx : x ∈ mine := by rw [e]; simp
    have hpre : pre.length ≤ 1000 := by
      have := congrArg List.length e
      simp at this
      omega
    generalize hF : (pre.filter fun x => decide (x ∈ yours) && isMid ws told x mine yours) = found
    have hfl : found.length < sizeLine := by
      have : found.length ≤ pre.length := by rw [← hF]; exact List.length_filter_le _ _
      rw [sl_eq]; omega
    obtain ⟨env', hf, s7', rfl⟩ := forG_all (st := set1 7) (body := law_middles_l2b c) (fun pre2 env => ∃ s7, env = [some (.sh, .lst (ws.map eW)), some (.sh, .lst (told.map eN)), some (.sh, eN mine), some (.sh, eN yours), some (.lst .sh, .lst (found.map nD)), some (.sh, nD x), some (.sh, .int ((pre2.filter fun n => !decide (x ∈ at0 told n) && (onTop (at0 (at0 ws n) 0) x mine && onTop (at0 (at0 ws n) 1) x yours)).length : Nat)), s7]) nD (xs := List.range ws.length) (env := [some (.sh, .lst (ws.map eW)), some (.sh, .lst (told.map eN)), some (.sh, eN mine), some (.sh, eN yours), some (.lst .sh, .lst (found.map nD)), some (.sh, nD x), some (.sh, .int 0), s7]) (fun pre2 n post2 env e2 h => by
      obtain ⟨s7, rfl⟩ := h
      have hn1 : n < ws.length := by
        have : n ∈ List.range ws.length := by rw [e2]; simp
        simpa using this
      have c1 : c "_law_stays" [eW (at0 ws n), nD x, D.tup [eN mine, eN yours]] = .ok (.bl (onTop (at0 (at0 ws n) 0) x mine && onTop (at0 (at0 ws n) 1) x yours)) := hc x hx _ (at0_mem hn1)
      have e1 : subD (.sh, .lst (ws.map eW)) (.int n) = .ok (.sh, eW (at0 ws n)) := sub_ofL hn1
      have e3 : subD (.sh, .lst (told.map eN)) (.int n) = .ok (.sh, eN (at0 told n)) := sub_ofL (by omega)
      have e4 : inD (.int x) (eN (at0 told n)) = .ok (decide (x ∈ at0 told n)) := inD_eN
      have t2 : 2 ≤ sizeLine := by decide
      generalize hk : (pre2.filter fun n => !decide (x ∈ at0 told n) && (onTop (at0 (at0 ws n) 0) x mine && onTop (at0 (at0 ws n) 1) x yours)) = kk
      refine ⟨_, by simp; rfl, [some (.sh, .lst (ws.map eW)), some (.sh, .lst (told.map eN)), some (.sh, eN mine), some (.sh, eN yours), some (.lst .sh, .lst (found.map nD)), some (.sh, nD x), some (.sh, .int (((pre2 ++ [n]).filter fun n => !decide (x ∈ at0 told n) && (onTop (at0 (at0 ws n) 0) x mine && onTop (at0 (at0 ws n) 1) x yours)).length : Nat)), some (.sh, nD n)], .inl ?_, _, rfl⟩
      rw [List.filter_append, List.length_append, hk]
      by_cases hxt : x ∈ at0 told n
      · have : List.filter (fun n => !decide (x ∈ at0 told n) && (onTop (at0 (at0 ws n) 0) x mine && onTop (at0 (at0 ws n) 1) x yours)) [n] = [] := by simp [hxt]
        rw [this]
        simp [law_middles_l2b, setS, cat_ok, frzE_run, ifS, andT, orT, notT, truE, truD, blT, cmpE, cmpD, subE, subS, varE, binE, blE, binD, negE, notE, andE, orE, chainE, retS, appS, augS, drpS, asgT, callV, evsE, tupV, lstV, litE, fldE, okArgs, Ow.ok, Ow.isSh, Ow.flat, sliE, partE, partD, sliD, mm2E, mm2D, rgE, rgD, isiE, forT, isD, idxE, e3, e4, hxt]
      · cases hs : (onTop (at0 (at0 ws n) 0) x mine && onTop (at0 (at0 ws n) 1) x yours) with
        | false =>
          have : List.filter (fun n => !decide (x ∈ at0 told n) && (onTop (at0 (at0 ws n) 0) x mine && onTop (at0 (at0 ws n) 1) x yours)) [n] = [] := by simp [hs]
          rw [this]
          rw [hs] at c1
          simp [law_middles_l2b, setS, cat_ok, frzE_run, ifS, andT, orT, notT, truE, truD, blT, cmpE, cmpD, subE, subS, varE, binE, blE, binD, negE, notE, andE, orE, chainE, retS, appS, augS, drpS, asgT, callV, evsE, tupV, lstV, litE, fldE, okArgs, Ow.ok, Ow.isSh, Ow.flat, sliE, partE, partD, sliD, mm2E, mm2D, rgE, rgD, isiE, forT, isD, idxE, e1, e3, e4, hxt, t2, c1]
        | true =>
          have : List.filter (fun n => !decide (x ∈ at0 told n) && (onTop (at0 (at0 ws n) 0) x mine && onTop (at0 (at0 ws n) 1) x yours)) [n] = [n] := by rw [List.filter_cons_of_pos (by rw [hs]; simp [hxt])]; rfl
          rw [this]
          rw [hs] at c1
          simp [law_middles_l2b, setS, cat_ok, frzE_run, ifS, andT, orT, notT, truE, truD, blT, cmpE, cmpD, subE, subS, varE, binE, blE, binD, negE, notE, andE, orE, chainE, retS, appS, augS, drpS, asgT, callV, evsE, tupV, lstV, litE, fldE, okArgs, Ow.ok, Ow.isSh, Ow.flat, sliE, partE, partD, sliD, mm2E, mm2D, rgE, rgD, isiE, forT, isD, idxE, e1, e3, e4, hxt, t2, c1]) ⟨s7, rfl⟩
    have hz : (((((List.range ws.length).filter fun n => !decide (x ∈ at0 told n) && (onTop (at0 (at0 ws n) 0) x mine && onTop (at0 (at0 ws n) 1) x yours)).length : Nat) : Int) = 0) ↔ isMid ws told x mine yours = true := by
      unfold isMid
      rw [List.all_eq_true]
      constructor
      · intro h n hn
        have : ((List.range ws.length).filter fun n => !decide (x ∈ at0 told n) && (onTop (at0 (at0 ws n) 0) x mine && onTop (at0 (at0 ws n) 1) x yours)) = [] := List.length_eq_zero_iff.1 (by omega)
        rw [List.filter_eq_nil_iff] at this
        have t := this n hn
        revert t
        cases (!decide (x ∈ at0 told n) && (onTop (at0 (at0 ws n) 0) x mine && onTop (at0 (at0 ws n) 1) x yours)) <;> simp
      · intro h
        have : ((List.range ws.length).filter fun n => !decide (x ∈ at0 told n) && (onTop (at0 (at0 ws n) 0) x mine && onTop (at0 (at0 ws n) 1) x yours)) = [] := by
          rw [List.filter_eq_nil_iff]
          intro n hn
          have t := h n hn
          revert t
          cases (!decide (x ∈ at0 told n) && (onTop (at0 (at0 ws n) 0) x mine && onTop (at0 (at0 ws n) 1) x yours)) <;> simp
        rw [this]; rfl
    generalize ((List.range ws.length).filter fun n => !decide (x ∈ at0 told n) && (onTop (at0 (at0 ws n) 0) x mine && onTop (at0 (at0 ws n) 1) x yours)).length = cnt at hf hz
    have ey : inD (.int x) (eN yours) = .ok (decide (x ∈ yours)) := inD_eN
    refine ⟨_, by simp; rfl, [some (.sh, .lst (ws.map eW)), some (.sh, .lst (told.map eN)), some (.sh, eN mine), some (.sh, eN yours), some (.lst .sh, .lst (((pre ++ [x]).filter fun x => decide (x ∈ yours) && isMid ws told x mine yours).map nD)), some (.sh, nD x), some (.sh, .int cnt), s7'], .inl ?_, _, _, _, rfl⟩
    unfold law_middles_l1b
    refine seq_nx (env' := [some (.sh, .lst (ws.map eW)), some (.sh, .lst (told.map eN)), some (.sh, eN mine), some (.sh, eN yours), some (.lst .sh, .lst (found.map nD)), some (.sh, nD x), some (.sh, .int 0), s7]) (by simp [setS, cat_ok, frzE_run, ifS, andT, orT, notT, truE, truD, blT, cmpE, cmpD, subE, subS, varE, binE, blE, binD, negE, notE, andE, orE, chainE, retS, appS, augS, drpS, asgT, callV, evsE, tupV, lstV, litE, fldE, okArgs, Ow.ok, Ow.isSh, Ow.flat, sliE, partE, partD, sliD, mm2E, mm2D, rgE, rgD, isiE, forT, isD, idxE]) ?_
    refine seq_nx (for_nx (range_run (n := ws.length) (by simp [setS, cat_ok, frzE_run, ifS, andT, orT, notT, truE, truD, blT, cmpE, cmpD, subE, subS, varE, binE, blE, binD, negE, notE, andE, orE, chainE, retS, appS, augS, drpS, asgT, callV, evsE, tupV, lstV, litE, fldE, okArgs, Ow.ok, Ow.isSh, Ow.flat, sliE, partE, partD, sliD, mm2E, mm2D, rgE, rgD, isiE, forT, isD, idxE]) (by omega)) hf) ?_
    rw [List.filter_append, hF]
    by_cases h1 : x ∈ yours
    · by_cases h2 : isMid ws told x mine yours = true
      · have h3 := hz.2 h2
        have h3' : cnt = 0 := by omega
        have : List.filter (fun x => decide (x ∈ yours) && isMid ws told x mine yours) [x] = [x] := by simp [h1, h2]
        rw [this]
        simp [setS, cat_ok, frzE_run, ifS, andT, orT, notT, truE, truD, blT, cmpE, cmpD, subE, subS, varE, binE, blE, binD, negE, notE, andE, orE, chainE, retS, appS, augS, drpS, asgT, callV, evsE, tupV, lstV, litE, fldE, okArgs, Ow.ok, Ow.isSh, Ow.flat, sliE, partE, partD, sliD, mm2E, mm2D, rgE, rgD, isiE, forT, isD, idxE, ey, h1, h3', hfl]
      · have h3 : ¬ ((cnt : Int) = 0) := fun z => h2 (hz.1 z)
        have h3' : ¬ cnt = 0 := by omega
        have : List.filter (fun x => decide (x ∈ yours) && isMid ws told x mine yours) [x] = [] := by simp [h2]
        rw [this]
        simp [setS, cat_ok, frzE_run, ifS, andT, orT, notT, truE, truD, blT, cmpE, cmpD, subE, subS, varE, binE, blE, binD, negE, notE, andE, orE, chainE, retS, appS, augS, drpS, asgT, callV, evsE, tupV, lstV, litE, fldE, okArgs, Ow.ok, Ow.isSh, Ow.flat, sliE, partE, partD, sliD, mm2E, mm2D, rgE, rgD, isiE, forT, isD, idxE, ey, h1, h3']
    · have : List.filter (fun x => decide (x ∈ yours) && isMid ws told x mine yours) [x] = [] := by simp [h1]
      rw [this]
      simp [setS, cat_ok, frzE_run, ifS, andT, orT, notT, truE, truD, blT, cmpE, cmpD, subE, subS, varE, binE, blE, binD, negE, notE, andE, orE, chainE, retS, appS, augS, drpS, asgT, callV, evsE, tupV, lstV, litE, fldE, okArgs, Ow.ok, Ow.isSh, Ow.flat, sliE, partE, partD, sliD, mm2E, mm2D, rgE, rgD, isiE, forT, isD, idxE, ey, h1]) ⟨none, none, none, rfl⟩
  unfold b_law_middles
  refine seq_nx (env' := [some (.sh, .lst (ws.map eW)), some (.sh, .lst (told.map eN)), some (.sh, eN mine), some (.sh, eN yours), some (.lst .sh, .lst []), none, none, none]) (by simp [setS, cat_ok, frzE_run, ifS, andT, orT, notT, truE, truD, blT, cmpE, cmpD, subE, subS, varE, binE, blE, binD, negE, notE, andE, orE, chainE, retS, appS, augS, drpS, asgT, callV, evsE, tupV, lstV, litE, fldE, okArgs, Ow.ok, Ow.isSh, Ow.flat, sliE, partE, partD, sliD, mm2E, mm2D, rgE, rgD, isiE, forT, isD, idxE]) ?_
  refine seq_nx (for_nx (seq_run (s := (.sh, eN mine)) (by simp [varE]) rfl) hf) ?_
  exact seq_rt (by simp [setS, cat_ok, frzE_run, ifS, andT, orT, notT, truE, truD, blT, cmpE, cmpD, subE, subS, varE, binE, blE, binD, negE, notE, andE, orE, chainE, retS, appS, augS, drpS, asgT, callV, evsE, tupV, lstV, litE, fldE, okArgs, Ow.ok, Ow.isSh, Ow.flat, sliE, partE, partD, sliD, mm2E, mm2D, rgE, rgD, isiE, forT, isD, idxE, mids])
end PB
end
section
set_option Elab.async false
set_option linter.all false
set_option maxRecDepth 100000
set_option maxHeartbeats 1000000
open PySem PyD L2
namespace PB
/-! ### told sets that a law draws -/
def maxL : List Int → Int
  | [] => 0
  | n :: ns => maxI n ns
theorem max_eI {o : Ow} : ∀ {l : List Int}, l ≠ [] → blD .max (o, eI l) = .ok (.sh, .int (maxL l))
  | [], h => absurd rfl h
  | n :: ns, _ => by
    show (match (items (eI (n :: ns))).bind intsOf with
      | some (n :: ns) => (R.ok (.sh, D.int (maxI n ns)) : R Sl)
      | _ => .bad) = _
    have : (items (eI (n :: ns))).bind intsOf = some (n :: ns) := by
      exact intsOf_map (n :: ns)
    rw [this]
    rfl
abbrev Asc (ms : List Nat) (o : Nat) : Prop := ms.Pairwise (· < ·) ∧ ∀ m ∈ ms, m < o
theorem asc_range (o : Nat) (p : Nat → Bool) : Asc ((List.range o).filter p) o :=
  ⟨List.Pairwise.filter _ List.pairwise_lt_range, fun m hm => by simpa using (List.mem_filter.1 hm).1⟩
theorem told_c1 {c : Str → List D → R D} {o : Nat} (ho : o ≤ 8) {r : List Int} (hr : r.length = o + 1) {sh : Int} (hsh : sh ≠ 0) {a0 a1 a2 a4 a5 a6 a7 a10 a11 a12 a13 a14 : Option Sl} : law_told_c1 c [a0, a1, a2, some (.sh, .int o), a4, a5, a6, a7, some (.lst .sh, I r), some (.sh, .int sh), a10, a11, a12, a13, a14] = .ok (.lst .sh, .lst (((List.range o).filter fun i => decide ((lk r i).fmod sh = 1)).map nD)) := by
  refine comp_map nD (fun i => decide ((lk r i).fmod sh = 1)) nD (List.range o) (range_run (n := o) (by simp) (by omega)) (by rw [List.length_range]; omega) fun i hi => ⟨_, by simp; rfl, ?_, fun _ => by simp [setS, cat_ok, frzE_run, ifS, andT, orT, notT, truE, truD, blT, cmpE, cmpD, subE, subS, varE, binE, blE, binD, negE, notE, andE, orE, chainE, retS, appS, augS, drpS, asgT, callV, evsE, tupV, lstV, litE, fldE, okArgs, Ow.ok, Ow.isSh, Ow.flat, sliE, partE, partD, sliD, mm2E, mm2D, rgE, rgD, isiE, forT, isD, idxE]⟩
  have hi : i < o := by simpa using hi
  simp [setS, cat_ok, frzE_run, ifS, andT, orT, notT, truE, truD, blT, cmpE, cmpD, subE, subS, varE, binE, blE, binD, negE, notE, andE, orE, chainE, retS, appS, augS, drpS, asgT, callV, evsE, tupV, lstV, litE, fldE, okArgs, Ow.ok, Ow.isSh, Ow.flat, sliE, partE, partD, sliD, mm2E, mm2D, rgE, rgD, isiE, forT, isD, idxE, sub_IO (l := r) (j := i) (by omega), hsh]
theorem told_c2 {c : Str → List D → R D} {p o n i : Nat} (hi : i < o) {ws : List (List (List Int))} (hn : n < ws.length) (hp : p ≤ 4) (hw : ∀ w ∈ ws, WOk p o w) {a0 a1 a3 a4 a5 a6 a8 a9 a10 a11 a12 a14 : Option Sl} : law_told_c2 c [a0, a1, some (.sh, .lst (ws.map eW)), a3, a4, a5, a6, some (.sh, nD n), a8, a9, a10, a11, a12, some (.sh, nD i), a14] = .ok (.lst .sh, .lst (((at0 ws n).filter fun l => decide (lk l i = maxL l)).map eI)) := by
  obtain ⟨h1, h2⟩ := hw _ (at0_mem hn)
  have e1 : subD (.sh, .lst (ws.map eW)) (nD n) = .ok (.sh, eW (at0 ws n)) := sub_ofL hn
  refine comp_map eI (fun l => decide (lk l i = maxL l)) eI (at0 ws n) (seq_run (s := (.sh, eW (at0 ws n))) (by simp [setS, cat_ok, frzE_run, ifS, andT, orT, notT, truE, truD, blT, cmpE, cmpD, subE, subS, varE, binE, blE, binD, negE, notE, andE, orE, chainE, retS, appS, augS, drpS, asgT, callV, evsE, tupV, lstV, litE, fldE, okArgs, Ow.ok, Ow.isSh, Ow.flat, sliE, partE, partD, sliD, mm2E, mm2D, rgE, rgD, isiE, forT, isD, idxE, e1]) rfl) (by omega) fun l hl => ⟨_, by simp; rfl, ?_, fun _ => by simp [setS, cat_ok, frzE_run, ifS, andT, orT, notT, truE, truD, blT, cmpE, cmpD, subE, subS, varE, binE, blE, binD, negE, notE, andE, orE, chainE, retS, appS, augS, drpS, asgT, callV, evsE, tupV, lstV, litE, fldE, okArgs, Ow.ok, Ow.isSh, Ow.flat, sliE, partE, partD, sliD, mm2E, mm2D, rgE, rgD, isiE, forT, isD, idxE]⟩
  have hl := (h2 l hl).1
  have e2 := max_eI (o := .sh) (l := l) (by intro z; rw [z] at hl; simp at hl; omega)
  have e3 : subD (.sh, eI l) (nD i) = .ok (.sh, .int (lk l i)) := sub_eI (by omega)
  simp [setS, cat_ok, frzE_run, ifS, andT, orT, notT, truE, truD, blT, cmpE, cmpD, subE, subS, varE, binE, blE, binD, negE, notE, andE, orE, chainE, retS, appS, augS, drpS, asgT, callV, evsE, tupV, lstV, litE, fldE, okArgs, Ow.ok, Ow.isSh, Ow.flat, sliE, partE, partD, sliD, mm2E, mm2D, rgE, rgD, isiE, forT, isD, idxE, e3, e2]
theorem told_c3 {c : Str → List D → R D} {p o n : Nat} (ho : o ≤ 8) {ws : List (List (List Int))} (hn : n < ws.length) (hp : p ≤ 4) (hw : ∀ w ∈ ws, WOk p o w) {a0 a1 a4 a5 a6 a8 a9 a10 a11 a12 a13 a14 : Option Sl} : ∃ t : List Nat, t.length = o ∧ law_told_c3 c [a0, a1, some (.sh, .lst (ws.map eW)), some (.sh, .int o), a4, a5, a6, some (.sh, nD n), a8, a9, a10, a11, a12, a13, a14] = .ok (.lst .sh, .lst (t.map nD)) := by
  refine ⟨(List.range o).map fun i => ((at0 ws n).filter fun l => decide (lk l i = maxL l)).length, by simp, ?_⟩
  rw [List.map_map]
  refine comp_all nD (fun i => nD ((at0 ws n).filter fun l => decide (lk l i = maxL l)).length) (List.range o) (range_run (n := o) (by simp) (by omega)) (by rw [List.length_range]; omega) fun i hi => ⟨_, by simp; rfl, ?_⟩
  have hi : i < o := by simpa using hi
  simp [setS, cat_ok, frzE_run, ifS, andT, orT, notT, truE, truD, blT, cmpE, cmpD, subE, subS, varE, binE, blE, binD, negE, notE, andE, orE, chainE, retS, appS, augS, drpS, asgT, callV, evsE, tupV, lstV, litE, fldE, okArgs, Ow.ok, Ow.isSh, Ow.flat, sliE, partE, partD, sliD, mm2E, mm2D, rgE, rgD, isiE, forT, isD, idxE, told_c2 hi hn hp hw]
theorem told_c4 {c : Str → List D → R D} {p o n i : Nat} (hi : i < o) {ws : List (List (List Int))} (hn : n < ws.length) (hp : p ≤ 4) (hw : ∀ w ∈ ws, WOk p o w) {a0 a1 a3 a4 a5 a6 a8 a9 a10 a11 a12 a14 : Option Sl} : law_told_c4 c [a0, a1, some (.sh, .lst (ws.map eW)), a3, a4, a5, a6, some (.sh, nD n), a8, a9, a10, a11, a12, some (.sh, nD i), a14] = .ok (.lst .sh, .lst (((at0 ws n).filter fun l => decide (lk l i < lk l 0)).map eI)) := by
  obtain ⟨h1, h2⟩ := hw _ (at0_mem hn)
  have e1 : subD (.sh, .lst (ws.map eW)) (nD n) = .ok (.sh, eW (at0 ws n)) := sub_ofL hn
  refine comp_map eI (fun l => decide (lk l i < lk l 0)) eI (at0 ws n) (seq_run (s := (.sh, eW (at0 ws n))) (by simp [setS, cat_ok, frzE_run, ifS, andT, orT, notT, truE, truD, blT, cmpE, cmpD, subE, subS, varE, binE, blE, binD, negE, notE, andE, orE, chainE, retS, appS, augS, drpS, asgT, callV, evsE, tupV, lstV, litE, fldE, okArgs, Ow.ok, Ow.isSh, Ow.flat, sliE, partE, partD, sliD, mm2E, mm2D, rgE, rgD, isiE, forT, isD, idxE, e1]) rfl) (by omega) fun l hl => ⟨_, by simp; rfl, ?_, fun _ => by simp [setS, cat_ok, frzE_run, ifS, andT, orT, notT, truE, truD, blT, cmpE, cmpD, subE, subS, varE, binE, blE, binD, negE, notE, andE, orE, chainE, retS, appS, augS, drpS, asgT, callV, evsE, tupV, lstV, litE, fldE, okArgs, Ow.ok, Ow.isSh, Ow.flat, sliE, partE, partD, sliD, mm2E, mm2D, rgE, rgD, isiE, forT, isD, idxE]⟩
  have hl := (h2 l hl).1
  have e3 : subD (.sh, eI l) (nD i) = .ok (.sh, .int (lk l i)) := sub_eI (by omega)
  have e4 : subD (.sh, eI l) (.int 0) = .ok (.sh, .int (lk l 0)) := sub_eI (j := 0) (by omega)
  simp [setS, cat_ok, frzE_run, ifS, andT, orT, notT, truE, truD, blT, cmpE, cmpD, subE, subS, varE, binE, blE, binD, negE, notE, andE, orE, chainE, retS, appS, augS, drpS, asgT, callV, evsE, tupV, lstV, litE, fldE, okArgs, Ow.ok, Ow.isSh, Ow.flat, sliE, partE, partD, sliD, mm2E, mm2D, rgE, rgD, isiE, forT, isD, idxE, e3, e4]
theorem told_c5 {c : Str → List D → R D} {p o n : Nat} (ho : o ≤ 8) {ws : List (List (List Int))} (hn : n < ws.length) (hp : p ≤ 4) (hw : ∀ w ∈ ws, WOk p o w) {a0 a1 a4 a5 a6 a8 a9 a10 a11 a12 a13 a14 : Option Sl} : ∃ t : List Nat, t.length = o ∧ law_told_c5 c [a0, a1, some (.sh, .lst (ws.map eW)), some (.sh, .int o), a4, a5, a6, some (.sh, nD n), a8, a9, a10, a11, a12, a13, a14] = .ok (.lst .sh, .lst (t.map nD)) := by
  refine ⟨(List.range o).map fun i => ((at0 ws n).filter fun l => decide (lk l i < lk l 0)).length, by simp, ?_⟩
  rw [List.map_map]
  refine comp_all nD (fun i => nD ((at0 ws n).filter fun l => decide (lk l i < lk l 0)).length) (List.range o) (range_run (n := o) (by simp) (by omega)) (by rw [List.length_range]; omega) fun i hi => ⟨_, by simp; rfl, ?_⟩
  have hi : i < o := by simpa using hi
  simp [setS, cat_ok, frzE_run, ifS, andT, orT, notT, truE, truD, blT, cmpE, cmpD, subE, subS, varE, binE, blE, binD, negE, notE, andE, orE, chainE, retS, appS, augS, drpS, asgT, callV, evsE, tupV, lstV, litE, fldE, okArgs, Ow.ok, Ow.isSh, Ow.flat, sliE, partE, partD, sliD, mm2E, mm2D, rgE, rgD, isiE, forT, isD, idxE, told_c4 hi hn hp hw]
theorem sub_lN {o : Ow} {t : List Nat} {i : Nat} (h : i < t.length) : subD (.lst .sh, .lst (t.map nD)) (nD i) = .ok (.sh, nD (nt t i)) := sub_lown h 0
theorem told_c6 {c : Str → List D → R D} {o : Nat} (ho : o ≤ 8) {t : List Nat} (ht : t.length = o) {a0 a1 a2 a4 a5 a6 a7 a8 a9 a10 a12 a13 a14 : Option Sl} : ∃ ms, Asc ms o ∧ law_told_c6 c [a0, a1, a2, some (.sh, .int o), a4, a5, a6, a7, a8, a9, a10, some (.lst .sh, .lst (t.map nD)), a12, a13, a14] = .ok (.lst .sh, .lst (ms.map nD)) := by
  refine ⟨_, asc_range o fun i => decide (0 < (nt t i : Int)), ?_⟩
  refine comp_map nD (fun i => decide (0 < (nt t i : Int))) nD (List.range o) (range_run (n := o) (by simp) (by omega)) (by rw [List.length_range]; omega) fun i hi => ⟨_, by simp; rfl, ?_, fun _ => by simp [setS, cat_ok, frzE_run, ifS, andT, orT, notT, truE, truD, blT, cmpE, cmpD, subE, subS, varE, binE, blE, binD, negE, notE, andE, orE, chainE, retS, appS, augS, drpS, asgT, callV, evsE, tupV, lstV, litE, fldE, okArgs, Ow.ok, Ow.isSh, Ow.flat, sliE, partE, partD, sliD, mm2E, mm2D, rgE, rgD, isiE, forT, isD, idxE]⟩
  have hi : i < o := by simpa using hi
  simp [setS, cat_ok, frzE_run, ifS, andT, orT, notT, truE, truD, blT, cmpE, cmpD, subE, subS, varE, binE, blE, binD, negE, notE, andE, orE, chainE, retS, appS, augS, drpS, asgT, callV, evsE, tupV, lstV, litE, fldE, okArgs, Ow.ok, Ow.isSh, Ow.flat, sliE, partE, partD, sliD, mm2E, mm2D, rgE, rgD, isiE, forT, isD, idxE, sub_lN (o := .sh) (t := t) (i := i) (by omega)]
theorem told_c7 {c : Str → List D → R D} {o : Nat} (ho : o ≤ 8) {t : List Nat} (ht : t.length = o) {a0 a1 a2 a4 a5 a6 a7 a8 a9 a10 a11 a13 a14 : Option Sl} : ∃ ms, Asc ms o ∧ law_told_c7 c [a0, a1, a2, some (.sh, .int o), a4, a5, a6, a7, a8, a9, a10, a11, some (.lst .sh, .lst (t.map nD)), a13, a14] = .ok (.lst .sh, .lst (ms.map nD)) := by
  refine ⟨_, asc_range o fun i => decide ((nt t i : Int) = 0), ?_⟩
  refine comp_map nD (fun i => decide ((nt t i : Int) = 0)) nD (List.range o) (range_run (n := o) (by simp) (by omega)) (by rw [List.length_range]; omega) fun i hi => ⟨_, by simp; rfl, ?_, fun _ => by simp [setS, cat_ok, frzE_run, ifS, andT, orT, notT, truE, truD, blT, cmpE, cmpD, subE, subS, varE, binE, blE, binD, negE, notE, andE, orE, chainE, retS, appS, augS, drpS, asgT, callV, evsE, tupV, lstV, litE, fldE, okArgs, Ow.ok, Ow.isSh, Ow.flat, sliE, partE, partD, sliD, mm2E, mm2D, rgE, rgD, isiE, forT, isD, idxE]⟩
  have hi : i < o := by simpa using hi
  simp [setS, cat_ok, frzE_run, ifS, andT, orT, notT, truE, truD, blT, cmpE, cmpD, subE, subS, varE, binE, blE, binD, negE, notE, andE, orE, chainE, retS, appS, augS, drpS, asgT, callV, evsE, tupV, lstV, litE, fldE, okArgs, Ow.ok, Ow.isSh, Ow.flat, sliE, partE, partD, sliD, mm2E, mm2D, rgE, rgD, isiE, forT, isD, idxE, sub_lN (o := .sh) (t := t) (i := i) (by omega)]
theorem told_step {c : Str → List D → R D} {script : List Int} (hr : RowC c script) {at' p o n rm : Nat} {way : Int} (ho : 1 ≤ o) (ho8 : o ≤ 8) (hp : p ≤ 4) {ws : List (List (List Int))} (hn : n < ws.length) (h8 : ws.length ≤ 8) (hw : ∀ w ∈ ws, WOk p o w) {told : List (List Nat)} (ht : told.length ≤ 1000) {s8 s9 s10 s11 s12 : Option Sl} : ∃ (ms : List Nat) (s8' s9' s10' s11' s12' : Option Sl), GoodSet ms o ∧ ms.length ≤ 1 + rm ∧ law_told_l1b c [some (.sh, I script), some (.sh, .int at'), some (.sh, .lst (ws.map eW)), some (.sh, .int o), some (.sh, .int way), some (.lst .sh, .lst (told.map eN)), some (.sh, .int rm), some (.sh, nD n), s8, s9, s10, s11, s12, none, none] = .ok (.nx [some (.sh, I script), some (.sh, .int at'), some (.sh, .lst (ws.map eW)), some (.sh, .int o), some (.sh, .int way), some (.lst .sh, .lst ((told ++ [ms]).map eN)), some (.sh, .int ((rm - (ms.length - 1) : Nat) : Int)), some (.sh, nD n), s8', s9', s10', s11', s12', none, none]) := by
  obtain ⟨r, r1, r2, r3⟩ := hr (at' + n) (o + 1) (by omega)
  have r3' : c "_law_row" [I script, .int ((at' : Int) + n), .int ((o : Int) + 1), .int 5040] = .ok (I r) := by
    have q1 : ((at' : Int) + n) = ((at' + n : Nat) : Int) := by omega
    have q2 : ((o : Int) + 1) = ((o + 1 : Nat) : Int) := by omega
    rw [q1, q2]
    exact r3
  have sh0 : 2 + way.fmod 2 ≠ 0 := by
    have := Int.fmod_nonneg_of_pos way (b := 2) (by omega)
    omega
  generalize hsh : 2 + way.fmod 2 = sh at sh0
  obtain ⟨t1, t1l, e3⟩ := told_c3 (c := c) ho8 hn hp hw (a0 := some (.sh, I script)) (a1 := some (.sh, .int at')) (a4 := some (.sh, .int way)) (a5 := some (.lst .sh, .lst (told.map eN))) (a6 := some (.sh, .int rm)) (a8 := some (.lst .sh, I r)) (a9 := some (.sh, .int sh)) (a10 := some (.lst .sh, .lst (((List.range o).filter fun i => decide ((lk r i).fmod sh = 1)).map nD))) (a11 := s11) (a12 := s12) (a13 := none) (a14 := none)
  obtain ⟨t2, t2l, e5⟩ := told_c5 (c := c) ho8 hn hp hw (a0 := some (.sh, I script)) (a1 := some (.sh, .int at')) (a4 := some (.sh, .int way)) (a5 := some (.lst .sh, .lst (told.map eN))) (a6 := some (.sh, .int rm)) (a8 := some (.lst .sh, I r)) (a9 := some (.sh, .int sh)) (a10 := some (.lst .sh, .lst (((List.range o).filter fun i => decide ((lk r i).fmod sh = 1)).map nD))) (a11 := some (.lst .sh, .lst (t1.map nD))) (a12 := s12) (a13 := none) (a14 := none)
  have e1 : law_told_c1 c [some (.sh, I script), some (.sh, .int at'), some (.sh, .lst (ws.map eW)), some (.sh, .int o), some (.sh, .int way), some (.lst .sh, .lst (told.map eN)), some (.sh, .int rm), some (.sh, nD n), some (.lst .sh, I r), some (.sh, .int sh), s10, s11, s12, none, none] = _ := told_c1 ho8 r1 sh0
  have as0 := asc_range o fun i => decide ((lk r i).fmod sh = 1)
  generalize (List.range o).filter (fun i => decide ((lk r i).fmod sh = 1)) = m0 at e1 e3 e5 as0
  let E : List Nat → DEnv := fun m => [some (.sh, I script), some (.sh, .int at'), some (.sh, .lst (ws.map eW)), some (.sh, .int o), some (.sh, .int way), some (.lst .sh, .lst (told.map eN)), some (.sh, .int rm), some (.sh, nD n), some (.lst .sh, I r), some (.sh, .int sh), some (.lst .sh, .lst (m.map nD)), some (.lst .sh, .lst (t1.map nD)), some (.lst .sh, .lst (t2.map nD)), none, none]
  have f6 : ∃ m1, Asc m1 o ∧ (demS [] (ifS (blT (cmpE .Eq (varB 4) (litE (.int 2)))) (seqV [(demS [] (setS 10 (law_told_c6 c)))]) (seqV []))) (E m0) = .ok (.nx (E m1)) := by
    by_cases h : way = 2
    · obtain ⟨m1, a1, z⟩ := told_c6 (c := c) ho8 t1l (a0 := some (.sh, I script)) (a1 := some (.sh, .int at')) (a2 := some (.sh, .lst (ws.map eW))) (a4 := some (.sh, .int way)) (a5 := some (.lst .sh, .lst (told.map eN))) (a6 := some (.sh, .int rm)) (a7 := some (.sh, nD n)) (a8 := some (.lst .sh, I r)) (a9 := some (.sh, .int sh)) (a10 := some (.lst .sh, .lst (m0.map nD))) (a12 := some (.lst .sh, .lst (t2.map nD))) (a13 := none) (a14 := none)
      refine ⟨m1, a1, ?_⟩
      subst h
      simp [E, setS, cat_ok, frzE_run, ifS, andT, orT, notT, truE, truD, blT, cmpE, cmpD, subE, subS, varE, binE, blE, binD, negE, notE, andE, orE, chainE, retS, appS, augS, drpS, asgT, callV, evsE, tupV, lstV, litE, fldE, okArgs, Ow.ok, Ow.isSh, Ow.flat, sliE, partE, partD, sliD, mm2E, mm2D, rgE, rgD, isiE, forT, isD, idxE, z]
    · exact ⟨m0, as0, by simp [E, setS, cat_ok, frzE_run, ifS, andT, orT, notT, truE, truD, blT, cmpE, cmpD, subE, subS, varE, binE, blE, binD, negE, notE, andE, orE, chainE, retS, appS, augS, drpS, asgT, callV, evsE, tupV, lstV, litE, fldE, okArgs, Ow.ok, Ow.isSh, Ow.flat, sliE, partE, partD, sliD, mm2E, mm2D, rgE, rgD, isiE, forT, isD, idxE, h]⟩
  obtain ⟨m1, as1, f6⟩ := f6
  have f7 : ∃ m2, Asc m2 o ∧ (demS [] (ifS (blT (cmpE .Eq (varB 4) (litE (.int 3)))) (seqV [(demS [] (setS 10 (law_told_c7 c)))]) (seqV []))) (E m1) = .ok (.nx (E m2)) := by
    by_cases h : way = 3
    · obtain ⟨m2, a1, z⟩ := told_c7 (c := c) ho8 t2l (a0 := some (.sh, I script)) (a1 := some (.sh, .int at')) (a2 := some (.sh, .lst (ws.map eW))) (a4 := some (.sh, .int way)) (a5 := some (.lst .sh, .lst (told.map eN))) (a6 := some (.sh, .int rm)) (a7 := some (.sh, nD n)) (a8 := some (.lst .sh, I r)) (a9 := some (.sh, .int sh)) (a10 := some (.lst .sh, .lst (m1.map nD))) (a11 := some (.lst .sh, .lst (t1.map nD))) (a13 := none) (a14 := none)
      refine ⟨m2, a1, ?_⟩
      subst h
      simp [E, setS, cat_ok, frzE_run, ifS, andT, orT, notT, truE, truD, blT, cmpE, cmpD, subE, subS, varE, binE, blE, binD, negE, notE, andE, orE, chainE, retS, appS, augS, drpS, asgT, callV, evsE, tupV, lstV, litE, fldE, okArgs, Ow.ok, Ow.isSh, Ow.flat, sliE, partE, partD, sliD, mm2E, mm2D, rgE, rgD, isiE, forT, isD, idxE, z]
    · exact ⟨m1, as1, by simp [E, setS, cat_ok, frzE_run, ifS, andT, orT, notT, truE, truD, blT, cmpE, cmpD, subE, subS, varE, binE, blE, binD, negE, notE, andE, orE, chainE, retS, appS, augS, drpS, asgT, callV, evsE, tupV, lstV, litE, fldE, okArgs, Ow.ok, Ow.isSh, Ow.flat, sliE, partE, partD, sliD, mm2E, mm2D, rgE, rgD, isiE, forT, isD, idxE, h]⟩
  obtain ⟨m2, as2, f7⟩ := f7
  have f8 : ∃ m3, Asc m3 o ∧ m3 ≠ [] ∧ (demS [] (ifS (blT (cmpE .Eq (blE .len (varB 10)) (litE (.int 0)))) (seqV [(demS [3] (setS 10 (lstV [(frzE (binE .Mod (blE .int (subE (varB 8) (varE 3))) (varB 3)))])))]) (seqV []))) (E m2) = .ok (.nx (E m3)) := by
    cases m2 with
    | nil =>
      have b1 := Int.fmod_nonneg_of_pos (lk r o) (b := (o : Int)) (by omega)
      have b2 := Int.fmod_lt_of_pos (lk r o) (b := (o : Int)) (by omega)
      refine ⟨[((lk r o).fmod o).toNat], ⟨List.pairwise_singleton _ _, fun m hm => ?_⟩, by simp, ?_⟩
      · rw [List.mem_singleton.1 hm]; omega
      · have e : ((((lk r o).fmod o).toNat : Nat) : Int) = (lk r o).fmod o := by omega
        have e2 : subD (.lst .sh, I r) (.int o) = .ok (.sh, .int (lk r o)) := sub_IO (by omega)
        have e3 : ¬ ((o : Int) = 0) := by omega
        have e3n : ¬ (o = 0) := by omega
        have t1 : 1 ≤ sizeLine := by decide
        simp [E, setS, cat_ok, frzE_run, ifS, andT, orT, notT, truE, truD, blT, cmpE, cmpD, subE, subS, varE, binE, blE, binD, negE, notE, andE, orE, chainE, retS, appS, augS, drpS, asgT, callV, evsE, tupV, lstV, litE, fldE, okArgs, Ow.ok, Ow.isSh, Ow.flat, sliE, partE, partD, sliD, mm2E, mm2D, rgE, rgD, isiE, forT, isD, idxE, e2, e3, e3n, t1, nD, e]
    | cons a b =>
      refine ⟨a :: b, as2, by simp, ?_⟩
      have : ¬ ((b.length : Int) + 1 = 0) := by omega
      simp [E, setS, cat_ok, frzE_run, ifS, andT, orT, notT, truE, truD, blT, cmpE, cmpD, subE, subS, varE, binE, blE, binD, negE, notE, andE, orE, chainE, retS, appS, augS, drpS, asgT, callV, evsE, tupV, lstV, litE, fldE, okArgs, Ow.ok, Ow.isSh, Ow.flat, sliE, partE, partD, sliD, mm2E, mm2D, rgE, rgD, isiE, forT, isD, idxE, this]
  obtain ⟨m3, as3, ne3, f8⟩ := f8
  have f9c : cutL (m3.map nD) none (some (1 + (rm : Int))) = (m3.take (1 + rm)).map nD := by
    have : (1 + (rm : Int)) = ((1 + rm : Nat) : Int) := by omega
    rw [this, cut_map, cut_to]
  have f9 : (demS [] (setS 10 (sliE (varB 10) none (some (binE .Add (litE (.int 1)) (varB 6)))))) (E m3) = .ok (.nx (E (m3.take (1 + rm)))) := by
    simp [E, setS, cat_ok, frzE_run, ifS, andT, orT, notT, truE, truD, blT, cmpE, cmpD, subE, subS, varE, binE, blE, binD, negE, notE, andE, orE, chainE, retS, appS, augS, drpS, asgT, callV, evsE, tupV, lstV, litE, fldE, okArgs, Ow.ok, Ow.isSh, Ow.flat, sliE, partE, partD, sliD, mm2E, mm2D, rgE, rgD, isiE, forT, isD, idxE, f9c]
  have good : GoodSet (m3.take (1 + rm)) o := ⟨fun z => ne3 (by
    have := congrArg List.length z
    rw [List.length_take] at this
    simp only [List.length_nil] at this
    exact List.length_eq_zero_iff.1 (by omega)), as3.1.sublist (List.take_sublist _ _), fun m hm => as3.2 m (List.take_subset _ _ hm)⟩
  have len : (m3.take (1 + rm)).length ≤ 1 + rm := by rw [List.length_take]; omega
  generalize m3.take (1 + rm) = m4 at f9 good len
  have l1 : 1 ≤ m4.length := by
    have := good.ne
    cases m4 with
    | nil => exact absurd rfl this
    | cons a b => simp
  have lr : ((rm : Int) - ((m4.length : Int) - 1)) = ((rm - (m4.length - 1) : Nat) : Int) := by omega
  have htl : told.length < sizeLine := by rw [sl_eq]; omega
  refine ⟨m4, some (.lst .sh, I r), some (.sh, .int sh), some (.lst .sh, .lst (m4.map nD)), some (.lst .sh, .lst (t1.map nD)), some (.lst .sh, .lst (t2.map nD)), good, len, ?_⟩
  unfold law_told_l1b
  refine seq_nx (env' := [some (.sh, I script), some (.sh, .int at'), some (.sh, .lst (ws.map eW)), some (.sh, .int o), some (.sh, .int way), some (.lst .sh, .lst (told.map eN)), some (.sh, .int rm), some (.sh, nD n), some (.lst .sh, I r), s9, s10, s11, s12, none, none]) (by simp [setS, cat_ok, frzE_run, ifS, andT, orT, notT, truE, truD, blT, cmpE, cmpD, subE, subS, varE, binE, blE, binD, negE, notE, andE, orE, chainE, retS, appS, augS, drpS, asgT, callV, evsE, tupV, lstV, litE, fldE, okArgs, Ow.ok, Ow.isSh, Ow.flat, sliE, partE, partD, sliD, mm2E, mm2D, rgE, rgD, isiE, forT, isD, idxE, r3']) ?_
  refine seq_nx (env' := [some (.sh, I script), some (.sh, .int at'), some (.sh, .lst (ws.map eW)), some (.sh, .int o), some (.sh, .int way), some (.lst .sh, .lst (told.map eN)), some (.sh, .int rm), some (.sh, nD n), some (.lst .sh, I r), some (.sh, .int sh), s10, s11, s12, none, none]) (by simp [setS, cat_ok, frzE_run, ifS, andT, orT, notT, truE, truD, blT, cmpE, cmpD, subE, subS, varE, binE, blE, binD, negE, notE, andE, orE, chainE, retS, appS, augS, drpS, asgT, callV, evsE, tupV, lstV, litE, fldE, okArgs, Ow.ok, Ow.isSh, Ow.flat, sliE, partE, partD, sliD, mm2E, mm2D, rgE, rgD, isiE, forT, isD, idxE, hsh]) ?_
  refine seq_nx (env' := [some (.sh, I script), some (.sh, .int at'), some (.sh, .lst (ws.map eW)), some (.sh, .int o), some (.sh, .int way), some (.lst .sh, .lst (told.map eN)), some (.sh, .int rm), some (.sh, nD n), some (.lst .sh, I r), some (.sh, .int sh), some (.lst .sh, .lst (m0.map nD)), s11, s12, none, none]) (by simp [setS, cat_ok, e1]) ?_
  refine seq_nx (env' := [some (.sh, I script), some (.sh, .int at'), some (.sh, .lst (ws.map eW)), some (.sh, .int o), some (.sh, .int way), some (.lst .sh, .lst (told.map eN)), some (.sh, .int rm), some (.sh, nD n), some (.lst .sh, I r), some (.sh, .int sh), some (.lst .sh, .lst (m0.map nD)), some (.lst .sh, .lst (t1.map nD)), s12, none, none]) (by simp [setS, cat_ok, e3]) ?_
  refine seq_nx (env' := E m0) (by simp [setS, cat_ok, e5, E]) ?_
  refine seq_nx f6 ?_
  refine seq_nx f7 ?_
  refine seq_nx f8 ?_
  refine seq_nx f9 ?_
  simp [E, setS, cat_ok, frzE_run, ifS, andT, orT, notT, truE, truD, blT, cmpE, cmpD, subE, subS, varE, binE, blE, binD, negE, notE, andE, orE, chainE, retS, appS, augS, drpS, asgT, callV, evsE, tupV, lstV, litE, fldE, okArgs, Ow.ok, Ow.isSh, Ow.flat, sliE, partE, partD, sliD, mm2E, mm2D, rgE, rgD, isiE, forT, isD, idxE, lr, htl]
theorem told_ok {c : Str → List D → R D} {N : List Str} (hN : N.length = 15) {script : List Int} (hr : RowC c script) {at' p o : Nat} {way : Int} (ho : 1 ≤ o) (ho8 : o ≤ 8) (hp : p ≤ 4) {ws : List (List (List Int))} (h8 : ws.length ≤ 8) (hw : ∀ w ∈ ws, WOk p o w) : ∃ told : List (List Nat), told.length = ws.length ∧ (∀ m ∈ told, GoodSet m o) ∧ (told.map List.length).sum ≤ 24 ∧ runD ⟨5, .lst .sh, false, []⟩ N (b_law_told c) [I script, .int at', .lst (ws.map eW), .int o, .int way] = .ok (.lst (told.map eN)) := by
  obtain ⟨env', hf, told, rm, s7, s8, s9, s10, s11, s12, rfl, g1, g2, g3⟩ := forG_all (st := set1 7) (body := law_told_l1b c) (fun pre env => ∃ (told : List (List Nat)) (rm : Nat) (s7 s8 s9 s10 s11 s12 : Option Sl), env = [some (.sh, I script), some (.sh, .int at'), some (.sh, .lst (ws.map eW)), some (.sh, .int o), some (.sh, .int way), some (.lst .sh, .lst (told.map eN)), some (.sh, .int (rm : Int)), s7, s8, s9, s10, s11, s12, none, none] ∧ told.length = pre.length ∧ (∀ m ∈ told, GoodSet m o) ∧ (told.map List.length).sum + rm + ws.length = 24 + told.length) nD (xs := List.range ws.length) (env := [some (.sh, I script), some (.sh, .int at'), some (.sh, .lst (ws.map eW)), some (.sh, .int o), some (.sh, .int way), some (.lst .sh, .lst []), some (.sh, .int ((24 - ws.length : Nat) : Int)), none, none, none, none, none, none, none, none]) (fun pre n post env e h => by
    obtain ⟨told, rm, s7, s8, s9, s10, s11, s12, rfl, g1, g2, g3⟩ := h
    have hn : n < ws.length := by
      have : n ∈ List.range ws.length := by rw [e]; simp
      simpa using this
    have hpre : pre.length ≤ ws.length := by
      have := congrArg List.length e
      simp at this
      omega
    obtain ⟨ms, s8', s9', s10', s11', s12', gm, lm, run⟩ := told_step (c := c) hr (at' := at') (way := way) (rm := rm) ho ho8 hp hn h8 hw (told := told) (by omega) (s8 := s8) (s9 := s9) (s10 := s10) (s11 := s11) (s12 := s12)
    have l1 : 1 ≤ ms.length := by
      have := gm.ne
      cases ms with
      | nil => exact absurd rfl this
      | cons a b => simp
    refine ⟨_, by simp, _, .inl run, told ++ [ms], _, _, _, _, _, _, _, rfl, by simp [g1], fun m hm => ?_, ?_⟩
    · rcases List.mem_append.1 hm with hm | hm
      · exact g2 m hm
      · rw [List.mem_singleton.1 hm]; exact gm
    · rw [List.map_append, List.sum_append, List.length_append]
      simp only [List.map_cons, List.map_nil, List.sum_cons, List.sum_nil, List.length_cons, List.length_nil]
      omega) ⟨[], 24 - ws.length, none, none, none, none, none, none, rfl, rfl, (fun m hm => absurd hm (by simp)), (by show 0 + (24 - ws.length) + ws.length = 24 + 0; omega)⟩
  refine ⟨told, by simpa using g1, g2, ?_, run_lst rfl rfl (imms_of imm_eN _) ?_⟩
  · rw [List.length_range] at g1
    omega
  · unfold env0
    rw [hN]
    show b_law_told c [some (.sh, I script), some (.sh, .int at'), some (.sh, .lst (ws.map eW)), some (.sh, .int o), some (.sh, .int way), none, none, none, none, none, none, none, none, none, none] = _
    unfold b_law_told
    have q : (24 - (ws.length : Int)) = ((24 - ws.length : Nat) : Int) := by omega
    refine seq_nx (env' := [some (.sh, I script), some (.sh, .int at'), some (.sh, .lst (ws.map eW)), some (.sh, .int o), some (.sh, .int way), some (.lst .sh, .lst []), none, none, none, none, none, none, none, none, none]) (by simp [setS, cat_ok, frzE_run, ifS, andT, orT, notT, truE, truD, blT, cmpE, cmpD, subE, subS, varE, binE, blE, binD, negE, notE, andE, orE, chainE, retS, appS, augS, drpS, asgT, callV, evsE, tupV, lstV, litE, fldE, okArgs, Ow.ok, Ow.isSh, Ow.flat, sliE, partE, partD, sliD, mm2E, mm2D, rgE, rgD, isiE, forT, isD, idxE]) ?_
    refine seq_nx (env' := [some (.sh, I script), some (.sh, .int at'), some (.sh, .lst (ws.map eW)), some (.sh, .int o), some (.sh, .int way), some (.lst .sh, .lst []), some (.sh, .int ((24 - ws.length : Nat) : Int)), none, none, none, none, none, none, none, none]) (by simp [setS, cat_ok, frzE_run, ifS, andT, orT, notT, truE, truD, blT, cmpE, cmpD, subE, subS, varE, binE, blE, binD, negE, notE, andE, orE, chainE, retS, appS, augS, drpS, asgT, callV, evsE, tupV, lstV, litE, fldE, okArgs, Ow.ok, Ow.isSh, Ow.flat, sliE, partE, partD, sliD, mm2E, mm2D, rgE, rgD, isiE, forT, isD, idxE, q]) ?_
    refine seq_nx (for_nx (range_run (n := ws.length) (by simp [setS, cat_ok, frzE_run, ifS, andT, orT, notT, truE, truD, blT, cmpE, cmpD, subE, subS, varE, binE, blE, binD, negE, notE, andE, orE, chainE, retS, appS, augS, drpS, asgT, callV, evsE, tupV, lstV, litE, fldE, okArgs, Ow.ok, Ow.isSh, Ow.flat, sliE, partE, partD, sliD, mm2E, mm2D, rgE, rgD, isiE, forT, isD, idxE]) (by omega)) hf) ?_
    exact seq_rt (by simp [setS, cat_ok, frzE_run, ifS, andT, orT, notT, truE, truD, blT, cmpE, cmpD, subE, subS, varE, binE, blE, binD, negE, notE, andE, orE, chainE, retS, appS, augS, drpS, asgT, callV, evsE, tupV, lstV, litE, fldE, okArgs, Ow.ok, Ow.isSh, Ow.flat, sliE, partE, partD, sliD, mm2E, mm2D, rgE, rgD, isiE, forT, isD, idxE])
end PB
end
section
set_option Elab.async false
set_option linter.all false
set_option maxRecDepth 100000
set_option maxHeartbeats 4000000
open PySem PyD
namespace K17
def top (i : Nat) : Stmt := PySem.Challenge.pw_endswithpapers_k17_middles_of_two_pairs.main.body.getD i (.Pass ⟨0, 0, 0, 0⟩)
def topM (i j : Nat) : Stmt := match top i with
  | .ClassDef _ _ _ b _ _ _ _ _ _ _ => b.getD j (.Pass ⟨0, 0, 0, 0⟩)
  | s => s

abbrev C_Book : Cf := ⟨"Book", topM 1 0, ["self", "allowed", "reach", "sets", "members"], ["self", "allowed", "reach"], 2, []⟩
abbrev C_Rule : Cf := ⟨"Rule", topM 22 0, ["self", "people", "outcomes", "worlds", "told", "number", "pairs", "outcome", "world", "members", "liking"], ["self", "people", "outcomes", "worlds", "told"], 4, []⟩
abbrev d_liking_of : Df := ⟨"liking_of", top 3, ["points", "steps", "point"], ["points"], ⟨1, .sh, false, []⟩, []⟩
abbrev d_is_liking : Df := ⟨"is_liking", top 4, ["levels", "outcomes"], ["levels", "outcomes"], ⟨2, .sh, false, []⟩, []⟩
abbrev d_on_top : Df := ⟨"on_top", top 5, ["liking", "outcome", "members", "member"], ["liking", "outcome", "members"], ⟨3, .sh, false, []⟩, []⟩
abbrev d_is_middle : Df := ⟨"is_middle", top 7, ["rule", "outcome", "mine", "yours", "number", "first", "second"], ["rule", "outcome", "mine", "yours"], ⟨4, .sh, false, []⟩, []⟩
abbrev d_middles : Df := ⟨"middles", top 8, ["rule", "book", "pair", "other", "mine", "yours", "outcome"], ["rule", "book", "pair", "other"], ⟨4, .sh, false, ["pair", "other"]⟩, []⟩
abbrev d_is_set : Df := ⟨"is_set", top 19, ["members", "outcomes", "last", "member"], ["members", "outcomes"], ⟨2, .sh, false, []⟩, []⟩
abbrev d_is_world : Df := ⟨"is_world", top 20, ["world", "people", "outcomes", "liking"], ["world", "people", "outcomes"], ⟨3, .sh, false, []⟩, []⟩
abbrev d_check_told : Df := ⟨"check_told", top 21, ["told", "worlds", "outcomes", "number"], ["told", "worlds", "outcomes"], ⟨3, .sh, false, []⟩, []⟩
abbrev d_law_row : Df := ⟨"_law_row", top 24, ["script", "at", "size", "limit", "cell", "digits", "first", "row", "index", "second"], ["script", "at", "size", "limit"], ⟨4, .lst .sh, false, []⟩, []⟩
abbrev d_law_same : Df := ⟨"_law_same", top 25, ["told", "due", "index"], ["told", "due"], ⟨2, .sh, false, []⟩, []⟩
abbrev d_law_dense : Df := ⟨"_law_dense", top 26, ["points", "steps", "point"], ["points"], ⟨1, .sh, false, []⟩, []⟩
abbrev d_law_over : Df := ⟨"_law_over", top 27, ["liking", "outcome", "members", "member"], ["liking", "outcome", "members"], ⟨3, .sh, false, []⟩, []⟩
abbrev d_law_world : Df := ⟨"_law_world", top 28, ["script", "at", "people", "outcomes", "drawn", "world", "who", "spread", "part", "point"], ["script", "at", "people", "outcomes"], ⟨4, .sh, false, []⟩, []⟩
abbrev d_law_pairs : Df := ⟨"_law_pairs", top 29, ["told", "pairs", "number", "outcome"], ["told"], ⟨1, .lst .sh, false, []⟩, []⟩
abbrev d_law_told : Df := ⟨"_law_told", top 30, ["script", "at", "worlds", "outcomes", "way", "told", "room", "number", "drawn", "share", "members", "tops", "least", "index", "liking"], ["script", "at", "worlds", "outcomes", "way"], ⟨5, .lst .sh, false, []⟩, []⟩
abbrev d_law_below : Df := ⟨"_law_below", top 31, ["worlds", "kept", "place", "who", "liking", "one"], ["worlds", "kept", "place", "who"], ⟨4, .lst .sh, false, []⟩, []⟩
abbrev d_law_stays : Df := ⟨"_law_stays", top 32, ["world", "outcome", "sets", "who"], ["world", "outcome", "sets"], ⟨3, .sh, false, []⟩, []⟩
abbrev d_law_middles : Df := ⟨"_law_middles", top 33, ["worlds", "told", "mine", "yours", "found", "outcome", "wrong", "number"], ["worlds", "told", "mine", "yours"], ⟨4, .lst .sh, false, []⟩, []⟩
abbrev d_law_reaches : Df := ⟨"_law_reaches", top 34, ["script", "at", "worlds", "places", "outcomes", "drawn", "rows", "index", "row", "who", "first", "way", "members", "one"], ["script", "at", "worlds", "places", "outcomes"], ⟨5, .sh, false, []⟩, []⟩
abbrev d_law_asked : Df := ⟨"_law_asked", top 35, ["script", "at", "size", "asked", "drawn", "one", "second", "index"], ["script", "at", "size"], ⟨3, .lst .sh, false, []⟩, []⟩
abbrev d_law_right_sets : Df := ⟨"_law_right_sets", top 36, ["rule", "book", "worlds", "told", "rows", "asked", "place", "due"], ["rule", "book", "worlds", "told", "rows", "asked"], ⟨6, .sh, false, []⟩, []⟩
abbrev d_law : Df := ⟨"law", top 37, ["script", "shape", "outcomes", "count", "worlds", "told", "places", "rule", "first", "second", "allowed", "handed", "book", "beside", "asked", "turned", "moved", "number", "one", "row", "world", "members"], ["script"], ⟨1, .sh, false, []⟩, [1, 1, 1, 1, 1, 1, 1, 1, 1, 1, 1, 3, 1, 1, 1, 1, 1, 1, 1, 1, 1, 1]⟩
def hd : Hd := ⟨[("PEOPLE", 4), ("OUTCOMES", 8), ("WORLDS", 8), ("PAIRS", 24)], [("Book", ["allowed", "reach"]), ("Rule", ["people", "outcomes", "worlds", "told", "pairs"])]⟩
abbrev cl : Str → Option Ci := hd.md.k
def tx : Tx := ⟨[d_liking_of, d_is_liking, d_on_top, d_is_middle, d_middles, d_is_set, d_is_world, d_check_told, d_law_row, d_law_same, d_law_dense, d_law_over, d_law_world, d_law_pairs, d_law_told, d_law_below, d_law_stays, d_law_middles, d_law_reaches, d_law_asked, d_law_right_sets, d_law], [C_Book, C_Rule], hd.md⟩
theorem e_Book (c : Str → List D → R D) : bodyOf (tbC tx c C_Book) C_Book.st = PB.b_Book c cl := by kernel_rfl
theorem e_Rule (c : Str → List D → R D) : bodyOf (tbC tx c C_Rule) C_Rule.st = PB.b_Rule c cl := by kernel_rfl
theorem e_liking_of (c : Str → List D → R D) : bodyOf (tbOf tx c d_liking_of) (top 3) = PB.b_liking_of c := by kernel_rfl
theorem e_is_liking (c : Str → List D → R D) : bodyOf (tbOf tx c d_is_liking) (top 4) = PB.b_is_liking c := by kernel_rfl
theorem e_on_top (c : Str → List D → R D) : bodyOf (tbOf tx c d_on_top) (top 5) = PB.b_on_top c := by kernel_rfl
theorem e_is_middle (c : Str → List D → R D) : bodyOf (tbOf tx c d_is_middle) (top 7) = PB.b_is_middle c := by kernel_rfl
theorem e_middles (c : Str → List D → R D) : bodyOf (tbOf tx c d_middles) (top 8) = PB.b_middles c := by kernel_rfl
theorem e_is_set (c : Str → List D → R D) : bodyOf (tbOf tx c d_is_set) (top 19) = PB.b_is_set c := by kernel_rfl
theorem e_is_world (c : Str → List D → R D) : bodyOf (tbOf tx c d_is_world) (top 20) = PB.b_is_world c := by kernel_rfl
theorem e_check_told (c : Str → List D → R D) : bodyOf (tbOf tx c d_check_told) (top 21) = PB.b_check_told c := by kernel_rfl
theorem e_law_row (c : Str → List D → R D) : bodyOf (tbOf tx c d_law_row) (top 24) = PB.b_law_row c := by kernel_rfl
theorem e_law_same (c : Str → List D → R D) : bodyOf (tbOf tx c d_law_same) (top 25) = PB.b_law_same c := by kernel_rfl
theorem e_law_dense (c : Str → List D → R D) : bodyOf (tbOf tx c d_law_dense) (top 26) = PB.b_law_dense c := by kernel_rfl
theorem e_law_over (c : Str → List D → R D) : bodyOf (tbOf tx c d_law_over) (top 27) = PB.b_law_over c := by kernel_rfl
theorem e_law_world (c : Str → List D → R D) : bodyOf (tbOf tx c d_law_world) (top 28) = PB.b_law_world c := by kernel_rfl
theorem e_law_pairs (c : Str → List D → R D) : bodyOf (tbOf tx c d_law_pairs) (top 29) = PB.b_law_pairs c := by kernel_rfl
theorem e_law_told (c : Str → List D → R D) : bodyOf (tbOf tx c d_law_told) (top 30) = PB.b_law_told c := by kernel_rfl
theorem e_law_below (c : Str → List D → R D) : bodyOf (tbOf tx c d_law_below) (top 31) = PB.b_law_below c := by kernel_rfl
theorem e_law_stays (c : Str → List D → R D) : bodyOf (tbOf tx c d_law_stays) (top 32) = PB.b_law_stays c := by kernel_rfl
theorem e_law_middles (c : Str → List D → R D) : bodyOf (tbOf tx c d_law_middles) (top 33) = PB.b_law_middles c := by kernel_rfl
def law_reaches_c1 (c : Str → List D → R D) : Ev := compG (.range (varB 4)) (set1 13) (blT (cmpE .Eq (binE .Mod (blE .int (subE (varB 5) (binE .Add (varB 10) (varB 13)))) (litE (.int 2))) (litE (.int 1)))) (frzE (varE 13)) [13]
def law_reaches_l2b (c : Str → List D → R D) : Ex := (seqV [(demS [] (setS 10 (binE .Mult (binE .Add (binE .Mult (litE (.int 2)) (varB 7)) (varB 9)) (binE .Add (varB 4) (litE (.int 1)))))), (demS [] (setS 11 (binE .Mod (blE .int (subE (varB 5) (binE .Add (varB 10) (varB 4)))) (litE (.int 6))))), (demS [] (setS 12 (law_reaches_c1 c))), (demS [] (ifS (blT (cmpE .Eq (varB 11) (litE (.int 0)))) (seqV [(demS [] (setS 12 (lstV [])))]) (seqV []))), (demS [] (ifS (blT (cmpE .Eq (varB 11) (litE (.int 1)))) (seqV [(demS [] (setS 12 (rgE false (varB 4))))]) (seqV []))), (demS [] (ifS (blT (cmpE .Eq (varB 11) (litE (.int 2)))) (seqV [(demS [7] (setS 12 (callV c "_law_below" ⟨4, .lst .sh, false, []⟩ [(varB 2), (rgE false (varB 4)), (subE (varB 3) (varE 7)), (varB 9)])))]) (seqV []))), (demS [] (appS 8 (frzE (blE .tuple (varB 12)))))])
def law_reaches_l1b (c : Str → List D → R D) : Ex := (seqV [(demS [] (setS 8 (lstV []))), (demS [] (forT (set1 9) (.range (litE (.int 2))) (law_reaches_l2b c))), (demS [] (appS 6 (frzE (blE .tuple (varB 8)))))])
def b_law_reaches (c : Str → List D → R D) : Ex := seqV [
  (demS [] (setS 5 (callV c "_law_row" ⟨4, .lst .sh, false, []⟩ [(varB 0), (varB 1), (binE .Mult (binE .Mult (litE (.int 2)) (blE .len (varB 3))) (binE .Add (varB 4) (litE (.int 1)))), (litE (.int 5040))]))),
  (demS [] (setS 6 (lstV []))),
  (demS [] (forT (set1 7) (.range (blE .len (varB 3))) (law_reaches_l1b c))),
  (demS [] (retS (blE .tuple (varB 6))))]
theorem e_law_reaches (c : Str → List D → R D) : bodyOf (tbOf tx c d_law_reaches) (top 34) = b_law_reaches c := by kernel_rfl
def law_asked_l2b (c : Str → List D → R D) : Ex := (seqV [(demS [5, 6] (appS 3 (frzE (tupV [(frzE (varE 5)), (frzE (varE 6))]))))])
def law_asked_l1b (c : Str → List D → R D) : Ex := (seqV [(demS [] (forT (set1 6) (.range (varB 2)) (law_asked_l2b c)))])
def law_asked_c1 (c : Str → List D → R D) : Ev := compG (.range (litE (.int 12))) (set1 7) yesT (frzE (tupV [(frzE (binE .Mod (blE .int (subE (varB 4) (binE .Mult (litE (.int 2)) (varB 7)))) (varB 2))), (frzE (binE .Mod (blE .int (subE (varB 4) (binE .Add (binE .Mult (litE (.int 2)) (varB 7)) (litE (.int 1))))) (varB 2)))])) [7]
def b_law_asked (c : Str → List D → R D) : Ex := seqV [
  (demS [] (setS 3 (lstV []))),
  (demS [] (ifS (blT (cmpE .Lt (varB 2) (litE (.int 6)))) (seqV [(demS [] (forT (set1 5) (.range (varB 2)) (law_asked_l1b c))), (retS (varB 3))]) (seqV []))),
  (demS [] (setS 4 (callV c "_law_row" ⟨4, .lst .sh, false, []⟩ [(varB 0), (varB 1), (litE (.int 24)), (litE (.int 5040))]))),
  (demS [] (retS (law_asked_c1 c)))]
theorem e_law_asked (c : Str → List D → R D) : bodyOf (tbOf tx c d_law_asked) (top 35) = b_law_asked c := by kernel_rfl
def law_right_sets_l1b (c : Str → List D → R D) : Ex := (seqV [(demS [] (setS 7 (callV c "_law_middles" ⟨4, .lst .sh, false, []⟩ [(varB 2), (varB 3), (subE (subE (varB 4) (subS (varB 6) (litE (.int 0)))) (litE (.int 0))), (subE (subE (varB 4) (subS (varB 6) (litE (.int 1)))) (litE (.int 1)))]))), (demS [] (ifS (notT (truE (callV c "_law_same" ⟨2, .sh, false, []⟩ [(callV c "middles" ⟨4, .sh, false, ["pair", "other"]⟩ [(varB 0), (varB 1), (subE (varB 6) (litE (.int 0))), (subE (varB 6) (litE (.int 1)))]), (varB 7)]))) (seqV [(demS [] (retS (litE (.bl false))))]) (seqV [])))])
def b_law_right_sets (c : Str → List D → R D) : Ex := seqV [
  (demS [5] (forT (set1 6) (.seq (frzE (varE 5))) (law_right_sets_l1b c))),
  (demS [] (retS (litE (.bl true))))]
theorem e_law_right_sets (c : Str → List D → R D) : bodyOf (tbOf tx c d_law_right_sets) (top 36) = b_law_right_sets c := by kernel_rfl
def law_c1 (c : Str → List D → R D) : Ev := compG (.range (varB 3)) (set1 17) yesT (frzE (callV c "_law_world" ⟨4, .sh, false, []⟩ [(varB 0), (binE .Add (litE (.int 1)) (varB 17)), (litE (.int 2)), (varB 2)])) [17]
def law_c2 (c : Str → List D → R D) : Ev := compG (.range (binE .Mod (blE .int (subE (varB 1) (litE (.int 4)))) (binE .Add (varB 2) (litE (.int 1))))) (set1 18) yesT (frzE (varE 18)) [18]
def law_c3 (c : Str → List D → R D) : Ev := compG (.seq (frzE (varE 19))) (set1 21) yesT (blE .list (varB 21)) [21]
def law_c4 (c : Str → List D → R D) : Ev := compG (.seq (frzE (varE 8))) (set1 19) yesT (law_c3 c) [19]
def law_c5 (c : Str → List D → R D) : Ev := compG (.seq (frzE (binE .Add (sliE (varB 4) (some (litE (.int 1))) none) (sliE (varB 4) none (some (litE (.int 1))))))) (set1 20) yesT (frzE (tupV [(frzE (subS (varB 20) (litE (.int 1)))), (frzE (subS (varB 20) (litE (.int 0))))])) [20]
def b_law (c : Str → List D → R D) : Ex := seqV [
  (demS [] (setS 1 (callV c "_law_row" ⟨4, .lst .sh, false, []⟩ [(varB 0), (litE (.int 0)), (litE (.int 5)), (litE (.int 5040))]))),
  (demS [] (setS 2 (subS (lstV [(frzE (litE (.int 2))), (frzE (litE (.int 3))), (frzE (litE (.int 4))), (frzE (litE (.int 1))), (frzE (litE (.int 3))), (frzE (litE (.int 2))), (frzE (litE (.int 3))), (frzE (litE (.int 4)))]) (binE .Mod (blE .int (subE (varB 1) (litE (.int 0)))) (litE (.int 8)))))),
  (demS [] (setS 3 (binE .Add (litE (.int 1)) (binE .Mod (blE .int (subE (varB 1) (litE (.int 1)))) (litE (.int 3)))))),
  (demS [] (ifS (blT (cmpE .Eq (binE .Mod (blE .int (subE (varB 1) (litE (.int 2)))) (litE (.int 6))) (litE (.int 5)))) (seqV [(demS [] (setS 2 (binE .Add (litE (.int 1)) (binE .Mod (blE .int (subE (varB 1) (litE (.int 0)))) (litE (.int 8)))))), (demS [] (setS 3 (binE .Add (litE (.int 1)) (binE .Mod (blE .int (subE (varB 1) (litE (.int 1)))) (litE (.int 8))))))]) (seqV []))),
  (demS [] (setS 4 (law_c1 c))),
  (demS [] (setS 5 (callV c "_law_told" ⟨5, .lst .sh, false, []⟩ [(varB 0), (litE (.int 9)), (varB 4), (varB 2), (binE .Mod (blE .int (subE (varB 1) (litE (.int 3)))) (litE (.int 4)))]))),
  (demS [] (setS 6 (callV c "_law_pairs" ⟨1, .lst .sh, false, []⟩ [(varB 5)]))),
  (demS [] (setS 7 (callV c "Rule" ⟨4, .sh, false, []⟩ [(litE (.int 2)), (varB 2), (varB 4), (varB 5)]))),
  (demS [] (setS 8 (callV c "_law_reaches" ⟨5, .sh, false, []⟩ [(varB 0), (litE (.int 17)), (varB 4), (varB 6), (varB 2)]))),
  (demS [] (setS 9 (callV c "_law_reaches" ⟨5, .sh, false, []⟩ [(varB 0), (litE (.int 18)), (varB 4), (varB 6), (varB 2)]))),
  (demS [] (setS 10 (law_c2 c))),
  (demS [8] (setO 11 (depO 3) (law_c4 c))),
  (demS [] (setS 12 (callV c "Book" ⟨2, .sh, false, []⟩ [(blE .list (varB 10)), (varB 11)]))),
  (demS [] (appP 11 [(litE (.int 0)), (litE (.int 0))] (binE .Sub (varB 2) (litE (.int 1))))),
  (demS [] (appP 11 [(litE (.int 0))] (lstW [(litE (.int 0))]))),
  (demS [] (appP 11 [] (lstW []))),
  (demS [] (setS 13 (callV c "Book" ⟨2, .sh, false, []⟩ [(blE .tuple (varB 10)), (varB 9)]))),
  (demS [] (ifS (orT (notT (truE (callV c "_law_same" ⟨2, .sh, false, []⟩ [(fldE "allowed" (varB 12)), (varB 10)]))) (notT (truE (callV c "_law_same" ⟨2, .sh, false, []⟩ [(fldE "reach" (varB 12)), (varB 8)])))) (seqV [(demS [] (retS (litE (.bl false))))]) (seqV []))),
  (demS [] (ifS (orT (notT (truE (callV c "_law_same" ⟨2, .sh, false, []⟩ [(fldE "allowed" (varB 13)), (varB 10)]))) (notT (truE (callV c "_law_same" ⟨2, .sh, false, []⟩ [(fldE "reach" (varB 13)), (varB 9)])))) (seqV [(demS [] (retS (litE (.bl false))))]) (seqV []))),
  (demS [] (setS 14 (callV c "_law_asked" ⟨3, .lst .sh, false, []⟩ [(varB 0), (litE (.int 19)), (blE .len (varB 6))]))),
  (demS [] (ifS (notT (truE (callV c "_law_right_sets" ⟨6, .sh, false, []⟩ [(varB 7), (varB 12), (varB 4), (varB 5), (varB 8), (varB 14)]))) (seqV [(demS [] (retS (litE (.bl false))))]) (seqV []))),
  (demS [] (ifS (notT (truE (callV c "_law_right_sets" ⟨6, .sh, false, []⟩ [(varB 7), (varB 13), (varB 4), (varB 5), (varB 9), (varB 14)]))) (seqV [(demS [] (retS (litE (.bl false))))]) (seqV []))),
  (demS [] (setS 15 (law_c5 c))),
  (demS [] (ifS (notT (truE (callV c "_law_right_sets" ⟨6, .sh, false, []⟩ [(callV c "Rule" ⟨4, .sh, false, []⟩ [(litE (.int 2)), (varB 2), (varB 15), (varB 5)]), (varB 12), (varB 15), (varB 5), (varB 8), (varB 14)]))) (seqV [(demS [] (retS (litE (.bl false))))]) (seqV []))),
  (demS [] (setS 16 (binE .Add (sliE (varB 5) (some (litE (.int 1))) none) (sliE (varB 5) none (some (litE (.int 1))))))),
  (demS [] (ifS (notT (truE (callV c "_law_right_sets" ⟨6, .sh, false, []⟩ [(callV c "Rule" ⟨4, .sh, false, []⟩ [(litE (.int 2)), (varB 2), (varB 4), (varB 16)]), (varB 12), (varB 4), (varB 16), (varB 8), (varB 14)]))) (seqV [(demS [] (retS (litE (.bl false))))]) (seqV []))),
  (demS [] (retS (callV c "_law_right_sets" ⟨6, .sh, false, []⟩ [(varB 7), (varB 12), (varB 4), (varB 5), (varB 8), (varB 14)])))]
theorem e_law (c : Str → List D → R D) : bodyOf (tbOf tx c d_law) (top 37) = b_law c := by kernel_rfl
end K17
end
section
set_option Elab.async false
set_option linter.all false
set_option maxRecDepth 100000
set_option maxHeartbeats 1000000
open PySem PyD L2 PB
namespace K17
abbrev S (n : Nat) : Str → List D → R D := semAt tx n
theorem g_row (n : Nat) (script : List Int) : RowC (S (n + 1)) script := fun at' size h => by
  obtain ⟨r, h1, h2, h3⟩ := row_ok (c := S n) (script := script) (at' := at') (size := size) (limit := 5040) (by decide) (by decide) h
  exact ⟨r, h1, h2, (semAt_fn (d := d_law_row) rfl (e_law_row _)).trans h3⟩
theorem g_dense (n : Nat) {b : Bool} {ps : List Int} (h : ps.length < 60) : S (n + 1) "_law_dense" [sq b (ps.map D.int)] = .ok (eI (dense ps)) := (semAt_fn (d := d_law_dense) rfl (e_law_dense _)).trans (dense_ok rfl h)
theorem g_liking_of (n : Nat) {b : Bool} {ps : List Int} (h : ps.length < 60) : S (n + 1) "liking_of" [sq b (ps.map D.int)] = .ok (eI (dense ps)) := (semAt_fn (d := d_liking_of) rfl (e_liking_of _)).trans (liking_of_ok rfl h)
theorem g_is_liking (n : Nat) {b : Bool} {l : List Int} {o : Nat} (h : l.length < 60) : S (n + 2) "is_liking" [sq b (l.map D.int), .int o] = .ok (.bl (isLik l o)) := (semAt_fn (d := d_is_liking) rfl (e_is_liking _)).trans (is_liking_ok rfl h (g_liking_of n h))
theorem g_is_world (n : Nat) {b b2 : Bool} {w : List (List Int)} {p o : Nat} (h : ∀ l ∈ w, l.length < 60) : S (n + 3) "is_world" [sq b (w.map fun l => sq b2 (l.map D.int)), .int p, .int o] = .ok (.bl (isWorld w p o)) := (semAt_fn (d := d_is_world) rfl (e_is_world _)).trans (is_world_ok rfl fun l hl => g_is_liking n (h l hl))
theorem g_is_set (n : Nat) {b : Bool} {ms : List Nat} {o : Nat} : S (n + 1) "is_set" [sq b (ms.map nD), .int o] = .ok (.bl (isSet ms o)) := (semAt_fn (d := d_is_set) rfl (e_is_set _)).trans (is_set_ok rfl)
theorem g_check_told (n : Nat) {b b2 : Bool} {told : List (List Nat)} {k o : Nat} (hn : told.length = k) (h : k < 1000) (hg : ∀ m ∈ told, GoodSet m o) : S (n + 2) "check_told" [sq b (told.map fun m => sq b2 (m.map nD)), .int k, .int o] = .ok .non := (semAt_fn (d := d_check_told) rfl (e_check_told _)).trans (check_told_ok rfl hn h fun m hm => (g_is_set n).trans (by rw [(hg m hm).set]))
theorem g_rule (n : Nat) {b1 b2 b3 b4 b5 : Bool} {p o : Nat} {ws : List (List (List Int))} {told : List (List Nat)} (h : RuleOk p o ws told) : S (n + 4) "Rule" [.int p, .int o, sW b1 b2 b3 ws, sT b4 b5 told] = .ok (ruleD p o ws told) := (semAt_cl (d := C_Rule) rfl rfl (e_Rule _)).trans (rule_ok rfl rfl rfl rfl h (fun w hw => (g_is_world n fun l hl => by
  have := ((h.wd w hw).2 l hl).1
  have := h.o8
  omega).trans (by rw [h.world hw])) (g_check_told (n + 1) h.tn (by have := h.w8; omega) h.ts))
theorem g_book (n : Nat) {b0 b1 b2 b3 : Bool} {al : List Nat} {reach : List (List (List Nat))} (h8 : reach.length ≤ 1000) (hw : ∀ s ∈ reach, s.length ≤ 1000) : S (n + 1) "Book" [sq b0 (al.map nD), sR b1 b2 b3 reach] = .ok (bookD al reach) := (semAt_cl (d := C_Book) rfl rfl (e_Book _)).trans (book_ok rfl rfl rfl rfl h8 hw)
theorem g_same_int (n : Nat) {i : Int} : S (n + 1) "_law_same" [.int i, .int i] = .ok (.bl true) := (semAt_fn (d := d_law_same) rfl (e_law_same _)).trans (same_int rfl)
theorem g_same_seq (n : Nat) {α : Type} {b : Bool} {f g : α → D} {xs : List α} (hl : xs.length ≤ 1000000) (h : ∀ x ∈ xs, S n "_law_same" [f x, g x] = .ok (.bl true)) : S (n + 1) "_law_same" [.tup (xs.map f), sq b (xs.map g)] = .ok (.bl true) := (semAt_fn (d := d_law_same) rfl (e_law_same _)).trans (same_seq rfl hl h)
theorem g_same_N (n : Nat) {b : Bool} {xs : List Nat} (hl : xs.length ≤ 1000000) : S (n + 2) "_law_same" [eN xs, sq b (xs.map nD)] = .ok (.bl true) := g_same_seq (n + 1) hl fun x _ => g_same_int n
theorem g_same_R (n : Nat) {reach : List (List (List Nat))} (hl : reach.length ≤ 1000) (hw : ∀ s ∈ reach, s.length ≤ 1000 ∧ ∀ m ∈ s, m.length ≤ 1000) : S (n + 4) "_law_same" [.tup (reach.map eR), .tup (reach.map eR)] = .ok (.bl true) := g_same_seq (b := false) (n + 3) (by omega) fun s hs => g_same_seq (b := false) (n + 2) (by have := (hw s hs).1; omega) fun m hm => g_same_N (b := false) n (by have := (hw s hs).2 m hm; omega)
theorem g_on_top (n : Nat) : OnTop (S (n + 1)) "on_top" := fun l o ms h1 h2 => (semAt_fn (d := d_on_top) rfl (e_on_top _)).trans (on_top_ok (b := false) rfl h1 h2)
theorem g_over (n : Nat) : OnTop (S (n + 1)) "_law_over" := fun l o ms h1 h2 => (semAt_fn (d := d_law_over) rfl (e_law_over _)).trans (over_ok (b := false) rfl h1 h2)
theorem g_is_middle (n : Nat) {p o : Nat} {ws : List (List (List Int))} {told : List (List Nat)} (h : RuleOk p o ws told) (hp : p = 2) {x : Nat} {mine yours : List Nat} (hx : x < o) (hm : ∀ m ∈ mine, m < o) (hy : ∀ m ∈ yours, m < o) : S (n + 2) "is_middle" [ruleD p o ws told, .int x, eN mine, eN yours] = .ok (.bl (isMid ws told x mine yours)) := (semAt_fn (d := d_is_middle) rfl (e_is_middle _)).trans (is_middle_ok rfl (g_on_top n) h hp hx hm hy)
theorem g_middles (n : Nat) {p o np : Nat} {ws : List (List (List Int))} {told : List (List Nat)} (h : RuleOk p o ws told) (hp : p = 2) {al : List Nat} {reach : List (List (List Nat))} (hb : BookOk o np reach) {i j : Nat} (hi : i < np) (hj : j < np) : S (n + 3) "middles" [ruleD p o ws told, bookD al reach, .int i, .int j] = .ok (eN (mids ws told (at0 (at0 reach i) 0) (at0 (at0 reach j) 1))) := (semAt_fn (d := d_middles) rfl (e_middles _)).trans (middles_ok rfl (by have := h.o8; omega) hb (fun x mine yours hx hm hy => g_is_middle n h hp hx hm hy) hi hj)
theorem g_world (n : Nat) {script : List Int} {at' p o : Nat} (hp : p ≤ 4) (ho : o ≤ 8) : ∃ w, WOk p o w ∧ S (n + 2) "_law_world" [I script, .int at', .int p, .int o] = .ok (eW w) := by
  obtain ⟨w, h1, h2⟩ := world_ok (c := S (n + 1)) (N := d_law_world.N) rfl (g_row n script) (fun ps h => g_dense (b := true) n h) (at' := at') hp ho
  exact ⟨w, h1, (semAt_fn (d := d_law_world) rfl (e_law_world _)).trans h2⟩
theorem g_pairs (n : Nat) {told : List (List Nat)} (h24 : (told.map List.length).sum ≤ 24) (hn : told.length ≤ 1000) : S (n + 1) "_law_pairs" [.lst (told.map eN)] = .ok (.lst ((pairsOf told).map eP)) := (semAt_fn (d := d_law_pairs) rfl (e_law_pairs _)).trans (pairs_ok rfl h24 hn)
theorem g_told (n : Nat) {script : List Int} {at' p o : Nat} {way : Int} (ho : 1 ≤ o) (ho8 : o ≤ 8) (hp : p ≤ 4) {ws : List (List (List Int))} (h8 : ws.length ≤ 8) (hw : ∀ w ∈ ws, WOk p o w) : ∃ told : List (List Nat), told.length = ws.length ∧ (∀ m ∈ told, GoodSet m o) ∧ (told.map List.length).sum ≤ 24 ∧ S (n + 2) "_law_told" [I script, .int at', .lst (ws.map eW), .int o, .int way] = .ok (.lst (told.map eN)) := by
  obtain ⟨told, h1, h2, h3, h4⟩ := told_ok (c := S (n + 1)) (N := d_law_told.N) rfl (g_row n script) (at' := at') (way := way) ho ho8 hp h8 hw
  exact ⟨told, h1, h2, h3, (semAt_fn (d := d_law_told) rfl (e_law_told _)).trans h4⟩
theorem g_below (n : Nat) {p o : Nat} {ws : List (List (List Int))} (hw : ∀ w ∈ ws, WOk p o w) {kept : List Nat} (hk : ∀ x ∈ kept, x < o) (hl : kept.length ≤ 1000) {x k who : Nat} (hx : x < o) (hn : k < ws.length) (hwho : who < p) : ∃ ms : List Nat, (∀ m ∈ ms, m ∈ kept) ∧ ms.length ≤ kept.length ∧ S (n + 1) "_law_below" [.lst (ws.map eW), .lst (kept.map nD), eP (x, k), .int who] = .ok (.lst (ms.map nD)) := by
  obtain ⟨ms, h1, h2, h3⟩ := below_ok (c := S n) (N := d_law_below.N) rfl hw hk hl hx hn hwho
  exact ⟨ms, h1, h2, (semAt_fn (d := d_law_below) rfl (e_law_below _)).trans h3⟩
theorem g_lstays (n : Nat) {o : Nat} {w : List (List Int)} (hw : WOk 2 o w) {x : Nat} {mine yours : List Nat} (hx : x < o) (hm : ∀ m ∈ mine, m < o) (hy : ∀ m ∈ yours, m < o) : S (n + 2) "_law_stays" [eW w, .int x, eR [mine, yours]] = .ok (.bl (onTop (at0 w 0) x mine && onTop (at0 w 1) x yours)) := (semAt_fn (d := d_law_stays) rfl (e_law_stays _)).trans (stays_ok rfl (g_over n) hw hx hm hy)
theorem g_lmiddles (n : Nat) {o : Nat} {ws : List (List (List Int))} {told : List (List Nat)} {mine yours : List Nat} (hw : ∀ w ∈ ws, WOk 2 o w) (hm : ∀ m ∈ mine, m < o) (hy : ∀ m ∈ yours, m < o) (hl : mine.length ≤ 1000) (hn : told.length = ws.length) (h8 : ws.length ≤ 1000) : S (n + 3) "_law_middles" [.lst (ws.map eW), .lst (told.map eN), eN mine, eN yours] = .ok (.lst ((mids ws told mine yours).map nD)) := (semAt_fn (d := d_law_middles) rfl (e_law_middles _)).trans (lmiddles_ok rfl (o := o) hl hn h8 fun x hx w hww => g_lstays n (hw w hww) (hm x hx) hm hy)
end K17
end
section
set_option Elab.async false
set_option linter.all false
set_option maxRecDepth 100000
set_option maxHeartbeats 1000000
open PySem PyD L2 PB
namespace K17
/-! ### reaches -/
theorem reach_s0 {K W O : Int} {S0 A Ws P R9 : D} {a6 a8 a10 a11 a12 a13 : Option Sl} {o5 : Ow} (m2 : mulOk (2 * K + W) (O + 1) = true) : demS [] (setS 10 (binE .Mult (binE .Add (binE .Mult (litE (.int 2)) (varB 7)) (varB 9)) (binE .Add (varB 4) (litE (.int 1))))) [some (.sh, S0), some (.sh, A), some (.sh, Ws), some (.sh, P), some (.sh, .int O), some (o5, R9), a6, some (.sh, .int K), a8, some (.sh, .int W), a10, a11, a12, a13] = .ok (.nx [some (.sh, S0), some (.sh, A), some (.sh, Ws), some (.sh, P), some (.sh, .int O), some (o5, R9), a6, some (.sh, .int K), a8, some (.sh, .int W), some (.sh, .int ((2 * K + W) * (O + 1))), a11, a12, a13]) := by
  have m1 : mulOk 2 K = true := mulOk_lc _ _ (by decide)
  simp [setS, cat_ok, frzE_run, ifS, andT, orT, notT, truE, truD, blT, cmpE, cmpD, subE, subS, varE, binE, blE, binD, negE, notE, andE, orE, chainE, retS, appS, augS, drpS, asgT, callV, evsE, tupV, lstV, litE, fldE, okArgs, Ow.ok, Ow.isSh, Ow.flat, sliE, partE, partD, sliD, mm2E, mm2D, rgE, rgD, isiE, forT, isD, idxE, m1, m2]
theorem reach_c1 {c : Str → List D → R D} {o F : Nat} (ho : o ≤ 8) {r : List Int} (hr : F + o < r.length) {a0 a1 a2 a3 a6 a7 a8 a9 a11 a12 a13 : Option Sl} : law_reaches_c1 c [a0, a1, a2, a3, some (.sh, .int o), some (.lst .sh, I r), a6, a7, a8, a9, some (.sh, .int F), a11, a12, a13] = .ok (.lst .sh, .lst (((List.range o).filter fun i => decide ((lk r (F + i)).fmod 2 = 1)).map nD)) := by
  refine comp_map nD (fun i => decide ((lk r (F + i)).fmod 2 = 1)) nD (List.range o) (range_run (n := o) (by simp) (by omega)) (by rw [List.length_range]; omega) fun i hi => ⟨_, by simp; rfl, ?_, fun _ => by simp [setS, cat_ok, frzE_run, ifS, andT, orT, notT, truE, truD, blT, cmpE, cmpD, subE, subS, varE, binE, blE, binD, negE, notE, andE, orE, chainE, retS, appS, augS, drpS, asgT, callV, evsE, tupV, lstV, litE, fldE, okArgs, Ow.ok, Ow.isSh, Ow.flat, sliE, partE, partD, sliD, mm2E, mm2D, rgE, rgD, isiE, forT, isD, idxE]⟩
  have hi : i < o := by simpa using hi
  have q : ((F : Int) + i) = ((F + i : Nat) : Int) := by omega
  have e : subD (.lst .sh, I r) (.int ((F : Int) + i)) = .ok (.sh, .int (lk r (F + i))) := by rw [q]; exact sub_IO (by omega)
  simp [setS, cat_ok, frzE_run, ifS, andT, orT, notT, truE, truD, blT, cmpE, cmpD, subE, subS, varE, binE, blE, binD, negE, notE, andE, orE, chainE, retS, appS, augS, drpS, asgT, callV, evsE, tupV, lstV, litE, fldE, okArgs, Ow.ok, Ow.isSh, Ow.flat, sliE, partE, partD, sliD, mm2E, mm2D, rgE, rgD, isiE, forT, isD, idxE, e]
theorem reach_step {c : Str → List D → R D} {script : List Int} {A : D} {o k who : Nat} (ho : 1 ≤ o) (ho8 : o ≤ 8) {ws : List (List (List Int))} (hw : ∀ w ∈ ws, WOk 2 o w) {places : List (Nat × Nat)} (hp : ∀ q ∈ places, q.1 < o ∧ q.2 < ws.length) (hk : k < places.length) (hk2 : places.length ≤ 1000) (hwho : who < 2) {r : List Int} (hr : r.length = 2 * places.length * (o + 1))
    (hb : ∀ {kept : List Nat} {x n who : Nat}, (∀ x ∈ kept, x < o) → kept.length ≤ 1000 → x < o → n < ws.length → who < 2 → ∃ ms : List Nat, (∀ m ∈ ms, m ∈ kept) ∧ ms.length ≤ kept.length ∧ c "_law_below" [.lst (ws.map eW), .lst (kept.map nD), eP (x, n), .int who] = .ok (.lst (ms.map nD)))
    {row : List (List Nat)} (hrow : row.length ≤ 10) {s6 s10 s11 s12 : Option Sl} : ∃ (ms : List Nat) (s10' s11' s12' : Option Sl), (∀ m ∈ ms, m < o) ∧ ms.length ≤ o ∧ law_reaches_l2b c [some (.sh, I script), some (.sh, A), some (.sh, .lst (ws.map eW)), some (.sh, .lst (places.map eP)), some (.sh, .int o), some (.lst .sh, I r), s6, some (.sh, nD k), some (.lst .sh, .lst (row.map eN)), some (.sh, nD who), s10, s11, s12, none] = .ok (.nx [some (.sh, I script), some (.sh, A), some (.sh, .lst (ws.map eW)), some (.sh, .lst (places.map eP)), some (.sh, .int o), some (.lst .sh, I r), s6, some (.sh, nD k), some (.lst .sh, .lst ((row ++ [ms]).map eN)), some (.sh, nD who), s10', s11', s12', none]) := by
  have hF : (2 * k + who) * (o + 1) + o < r.length := by
    rw [hr]
    have := Nat.mul_le_mul_right (o + 1) (by omega : 2 * k + who + 1 ≤ 2 * places.length)
    rw [Nat.add_mul, Nat.one_mul] at this
    omega
  have m2 : mulOk (2 * (k : Int) + who) ((o : Int) + 1) = true := by
    have : ((o : Int) + 1) = ((o + 1 : Nat) : Int) := by omega
    rw [this]
    exact mulOk_sm (by omega)
  have qF : ((2 * (k : Int) + who) * ((o : Int) + 1)) = (((2 * k + who) * (o + 1) : Nat) : Int) := by
    rw [Int.natCast_mul, Int.natCast_add, Int.natCast_mul, Int.natCast_add]; rfl
  have f0 := reach_s0 (S0 := I script) (A := A) (Ws := .lst (ws.map eW)) (P := .lst (places.map eP)) (R9 := I r) (o5 := .lst .sh) (a6 := s6) (a8 := some (.lst .sh, .lst (row.map eN))) (a10 := s10) (a11 := s11) (a12 := s12) (a13 := none) m2
  rw [qF] at f0
  generalize (2 * k + who) * (o + 1) = F at hF f0
  have e1 : subD (.lst .sh, I r) (.int ((F : Int) + o)) = .ok (.sh, .int (lk r (F + o))) := by
    have q : ((F : Int) + o) = ((F + o : Nat) : Int) := by omega
    rw [q]; exact sub_IO (by omega)
  have e2 : law_reaches_c1 c [some (.sh, I script), some (.sh, A), some (.sh, .lst (ws.map eW)), some (.sh, .lst (places.map eP)), some (.sh, .int o), some (.lst .sh, I r), s6, some (.sh, nD k), some (.lst .sh, .lst (row.map eN)), some (.sh, nD who), some (.sh, .int F), some (.sh, .int ((lk r (F + o)).fmod 6)), s12, none] = _ := reach_c1 ho8 hF
  have as0 : ∀ m ∈ (List.range o).filter (fun i => decide ((lk r (F + i)).fmod 2 = 1)), m < o := fun m hm => by simpa using (List.mem_filter.1 hm).1
  have al0 : ((List.range o).filter (fun i => decide ((lk r (F + i)).fmod 2 = 1))).length ≤ o := Nat.le_trans (List.length_filter_le _ _) (by simp)
  generalize (List.range o).filter (fun i => decide ((lk r (F + i)).fmod 2 = 1)) = m0 at e2 as0 al0
  generalize hway : (lk r (F + o)).fmod 6 = way at e2
  let E : List Nat → DEnv := fun m => [some (.sh, I script), some (.sh, A), some (.sh, .lst (ws.map eW)), some (.sh, .lst (places.map eP)), some (.sh, .int o), some (.lst .sh, I r), s6, some (.sh, nD k), some (.lst .sh, .lst (row.map eN)), some (.sh, nD who), some (.sh, .int F), some (.sh, .int way), some (.lst .sh, .lst (m.map nD)), none]
  have rg : rgD false (.sh, .int (o : Int)) = .ok (.lst .sh, .lst ((List.range o).map nD)) := by
    have h1 : decide ((0 : Int) ≤ (o : Int)) = true := decide_eq_true (by omega)
    have h2 : decide ((o : Int) ≤ 16777216) = true := decide_eq_true (by omega)
    unfold rgD
    simp only [h1, h2]
    rfl
  have f4 : ∃ m1, (∀ m ∈ m1, m < o) ∧ m1.length ≤ o ∧ (demS [] (ifS (blT (cmpE .Eq (varB 11) (litE (.int 0)))) (seqV [(demS [] (setS 12 (lstV [])))]) (seqV []))) (E m0) = .ok (.nx (E m1)) := by
    by_cases h : way = 0
    · exact ⟨[], fun _ z => absurd z (by simp), by simp, by simp [E, setS, cat_ok, frzE_run, ifS, andT, orT, notT, truE, truD, blT, cmpE, cmpD, subE, subS, varE, binE, blE, binD, negE, notE, andE, orE, chainE, retS, appS, augS, drpS, asgT, callV, evsE, tupV, lstV, litE, fldE, okArgs, Ow.ok, Ow.isSh, Ow.flat, sliE, partE, partD, sliD, mm2E, mm2D, rgE, rgD, isiE, forT, isD, idxE, h]⟩
    · exact ⟨m0, as0, al0, by simp [E, setS, cat_ok, frzE_run, ifS, andT, orT, notT, truE, truD, blT, cmpE, cmpD, subE, subS, varE, binE, blE, binD, negE, notE, andE, orE, chainE, retS, appS, augS, drpS, asgT, callV, evsE, tupV, lstV, litE, fldE, okArgs, Ow.ok, Ow.isSh, Ow.flat, sliE, partE, partD, sliD, mm2E, mm2D, rgE, rgD, isiE, forT, isD, idxE, h]⟩
  obtain ⟨m1, as1, al1, f4⟩ := f4
  have f5 : ∃ m2, (∀ m ∈ m2, m < o) ∧ m2.length ≤ o ∧ (demS [] (ifS (blT (cmpE .Eq (varB 11) (litE (.int 1)))) (seqV [(demS [] (setS 12 (rgE false (varB 4))))]) (seqV []))) (E m1) = .ok (.nx (E m2)) := by
    by_cases h : way = 1
    · refine ⟨List.range o, fun m hm => by simpa using hm, by simp, ?_⟩
      simp [E, ifS, blT, cmpE, litE, setS, cat_ok, h, rgE, rg, cmpD]
    · exact ⟨m1, as1, al1, by simp [E, setS, cat_ok, frzE_run, ifS, andT, orT, notT, truE, truD, blT, cmpE, cmpD, subE, subS, varE, binE, blE, binD, negE, notE, andE, orE, chainE, retS, appS, augS, drpS, asgT, callV, evsE, tupV, lstV, litE, fldE, okArgs, Ow.ok, Ow.isSh, Ow.flat, sliE, partE, partD, sliD, mm2E, mm2D, rgE, rgD, isiE, forT, isD, idxE, h]⟩
  obtain ⟨m2, as2, al2, f5⟩ := f5
  have f6 : ∃ m3, (∀ m ∈ m3, m < o) ∧ m3.length ≤ o ∧ (demS [] (ifS (blT (cmpE .Eq (varB 11) (litE (.int 2)))) (seqV [(demS [7] (setS 12 (callV c "_law_below" ⟨4, .lst .sh, false, []⟩ [(varB 2), (rgE false (varB 4)), (subE (varB 3) (varE 7)), (varB 9)])))]) (seqV []))) (E m2) = .ok (.nx (E m3)) := by
    by_cases h : way = 2
    · have hq := hp _ (List.getElem_mem hk)
      obtain ⟨ms, b1, b2, b3⟩ := hb (kept := List.range o) (x := places[k].1) (n := places[k].2) (who := who) (fun x hx => by simpa using hx) (by simp; omega) hq.1 hq.2 hwho
      have sp : subD (.sh, .lst (places.map eP)) (nD k) = .ok (.sh, eP places[k]) := sub_get (b := true) hk
      refine ⟨ms, fun m hm => by simpa using b1 m hm, by simpa using b2, ?_⟩
      simp [E, ifS, blT, cmpE, litE, setS, cat_ok, h, rgE, rg, cmpD, callV, evsE, subE, varE, sp, okArgs, Ow.ok, b3]
    · exact ⟨m2, as2, al2, by simp [E, setS, cat_ok, frzE_run, ifS, andT, orT, notT, truE, truD, blT, cmpE, cmpD, subE, subS, varE, binE, blE, binD, negE, notE, andE, orE, chainE, retS, appS, augS, drpS, asgT, callV, evsE, tupV, lstV, litE, fldE, okArgs, Ow.ok, Ow.isSh, Ow.flat, sliE, partE, partD, sliD, mm2E, mm2D, rgE, rgD, isiE, forT, isD, idxE, h]⟩
  obtain ⟨m3, as3, al3, f6⟩ := f6
  have hrl : row.length < sizeLine := by rw [sl_eq]; omega
  refine ⟨m3, some (.sh, .int F), some (.sh, .int way), some (.lst .sh, .lst (m3.map nD)), as3, al3, ?_⟩
  unfold law_reaches_l2b
  refine seq_nx f0 ?_
  refine seq_nx (env' := [some (.sh, I script), some (.sh, A), some (.sh, .lst (ws.map eW)), some (.sh, .lst (places.map eP)), some (.sh, .int o), some (.lst .sh, I r), s6, some (.sh, nD k), some (.lst .sh, .lst (row.map eN)), some (.sh, nD who), some (.sh, .int F), some (.sh, .int way), s12, none]) ?_ ?_
  · simp [setS, cat_ok, frzE_run, ifS, andT, orT, notT, truE, truD, blT, cmpE, cmpD, subE, subS, varE, binE, blE, binD, negE, notE, andE, orE, chainE, retS, appS, augS, drpS, asgT, callV, evsE, tupV, lstV, litE, fldE, okArgs, Ow.ok, Ow.isSh, Ow.flat, sliE, partE, partD, sliD, mm2E, mm2D, rgE, rgD, isiE, forT, isD, idxE, e1, hway]
  refine seq_nx (env' := E m0) (by simp [setS, cat_ok, e2, E]) ?_
  refine seq_nx f4 ?_
  refine seq_nx f5 ?_
  refine seq_nx f6 ?_
  simp [E, setS, cat_ok, frzE_run, ifS, andT, orT, notT, truE, truD, blT, cmpE, cmpD, subE, subS, varE, binE, blE, binD, negE, notE, andE, orE, chainE, retS, appS, augS, drpS, asgT, callV, evsE, tupV, lstV, litE, fldE, okArgs, Ow.ok, Ow.isSh, Ow.flat, sliE, partE, partD, sliD, mm2E, mm2D, rgE, rgD, isiE, forT, isD, idxE, hrl]
theorem reach_r0 {L O : Int} {c : Str → List D → R D} {S0 A Ws : D} {P : List D} {r : List Int} {a5 a6 a7 a8 a9 a10 a11 a12 a13 : Option Sl} (hL : (P.length : Int) = L) (m2 : mulOk (2 * L) (O + 1) = true) (r3 : c "_law_row" [S0, A, .int (2 * L * (O + 1)), .int 5040] = .ok (I r)) : demS [] (setS 5 (callV c "_law_row" ⟨4, .lst .sh, false, []⟩ [(varB 0), (varB 1), (binE .Mult (binE .Mult (litE (.int 2)) (blE .len (varB 3))) (binE .Add (varB 4) (litE (.int 1)))), (litE (.int 5040))])) [some (.sh, S0), some (.sh, A), some (.sh, Ws), some (.sh, .lst P), some (.sh, .int O), a5, a6, a7, a8, a9, a10, a11, a12, a13] = .ok (.nx [some (.sh, S0), some (.sh, A), some (.sh, Ws), some (.sh, .lst P), some (.sh, .int O), some (.lst .sh, I r), a6, a7, a8, a9, a10, a11, a12, a13]) := by
  have m1 : mulOk 2 L = true := mulOk_lc _ _ (by decide)
  simp [setS, cat_ok, frzE_run, ifS, andT, orT, notT, truE, truD, blT, cmpE, cmpD, subE, subS, varE, binE, blE, binD, negE, notE, andE, orE, chainE, retS, appS, augS, drpS, asgT, callV, evsE, tupV, lstV, litE, fldE, okArgs, Ow.ok, Ow.isSh, Ow.flat, sliE, partE, partD, sliD, mm2E, mm2D, rgE, rgD, isiE, forT, isD, idxE, hL, m1, m2, r3]
theorem reaches_ok {c : Str → List D → R D} {N : List Str} (hN : N.length = 14) {script : List Int} (hr : RowC c script) {at' o : Nat} (ho : 1 ≤ o) (ho8 : o ≤ 8) {ws : List (List (List Int))} (hw : ∀ w ∈ ws, WOk 2 o w) {places : List (Nat × Nat)} (hp : ∀ q ∈ places, q.1 < o ∧ q.2 < ws.length) (hk2 : places.length ≤ 1000)
    (hb : ∀ {kept : List Nat} {x n who : Nat}, (∀ x ∈ kept, x < o) → kept.length ≤ 1000 → x < o → n < ws.length → who < 2 → ∃ ms : List Nat, (∀ m ∈ ms, m ∈ kept) ∧ ms.length ≤ kept.length ∧ c "_law_below" [.lst (ws.map eW), .lst (kept.map nD), eP (x, n), .int who] = .ok (.lst (ms.map nD))) : ∃ rows : List (List (List Nat)), BookOk o places.length rows ∧ runD ⟨5, .sh, false, []⟩ N (b_law_reaches c) [I script, .int at', .lst (ws.map eW), .lst (places.map eP), .int o] = .ok (.tup (rows.map eR)) := by
  have hlen : 2 * places.length * (o + 1) ≤ 2000 * 9 := Nat.mul_le_mul (by omega) (by omega)
  obtain ⟨r, r1, r2, r3⟩ := hr at' (2 * places.length * (o + 1)) (by omega)
  have m2 : mulOk (2 * (places.length : Int)) ((o : Int) + 1) = true := by
    have : ((o : Int) + 1) = ((o + 1 : Nat) : Int) := by omega
    rw [this]
    exact mulOk_sm (by omega)
  have q : (((2 * places.length * (o + 1) : Nat)) : Int) = 2 * (places.length : Int) * ((o : Int) + 1) := by
    rw [Int.natCast_mul, Int.natCast_mul, Int.natCast_add]; rfl
  rw [q] at r3
  obtain ⟨env', hf, rows, s7, s8, s9, s10, s11, s12, rfl, g1, g2⟩ := forG_all (st := set1 7) (body := law_reaches_l1b c) (fun pre env => ∃ (rows : List (List (List Nat))) (s7 s8 s9 s10 s11 s12 : Option Sl), env = [some (.sh, I script), some (.sh, .int at'), some (.sh, .lst (ws.map eW)), some (.sh, .lst (places.map eP)), some (.sh, .int o), some (.lst .sh, I r), some (.lst .sh, .lst (rows.map eR)), s7, s8, s9, s10, s11, s12, none] ∧ rows.length = pre.length ∧ ∀ s ∈ rows, s.length = 2 ∧ ∀ m ∈ s, m.length ≤ o ∧ ∀ x ∈ m, x < o) nD (xs := List.range places.length) (env := [some (.sh, I script), some (.sh, .int at'), some (.sh, .lst (ws.map eW)), some (.sh, .lst (places.map eP)), some (.sh, .int o), some (.lst .sh, I r), some (.lst .sh, .lst []), none, none, none, none, none, none, none]) (fun pre k post env e h => by
    obtain ⟨rows, s7, s8, s9, s10, s11, s12, rfl, g1, g2⟩ := h
    have hk : k < places.length := by
      have : k ∈ List.range places.length := by rw [e]; simp
      simpa using this
    have hpre : pre.length ≤ places.length := by
      have := congrArg List.length e
      simp at this
      omega
    obtain ⟨env', hf, row, s9', s10', s11', s12', rfl, w1, w2⟩ := forG_all (st := set1 9) (body := law_reaches_l2b c) (fun pre2 env => ∃ (row : List (List Nat)) (s9 s10 s11 s12 : Option Sl), env = [some (.sh, I script), some (.sh, .int at'), some (.sh, .lst (ws.map eW)), some (.sh, .lst (places.map eP)), some (.sh, .int o), some (.lst .sh, I r), some (.lst .sh, .lst (rows.map eR)), some (.sh, nD k), some (.lst .sh, .lst (row.map eN)), s9, s10, s11, s12, none] ∧ row.length = pre2.length ∧ ∀ m ∈ row, m.length ≤ o ∧ ∀ x ∈ m, x < o) nD (xs := List.range 2) (env := [some (.sh, I script), some (.sh, .int at'), some (.sh, .lst (ws.map eW)), some (.sh, .lst (places.map eP)), some (.sh, .int o), some (.lst .sh, I r), some (.lst .sh, .lst (rows.map eR)), some (.sh, nD k), some (.lst .sh, .lst []), s9, s10, s11, s12, none]) (fun pre2 who post2 env e2 h => by
      obtain ⟨row, s9, s10, s11, s12, rfl, w1, w2⟩ := h
      have hwho : who < 2 := by
        have : who ∈ List.range 2 := by rw [e2]; simp
        simpa using this
      have hpre2 : pre2.length ≤ 2 := by
        have := congrArg List.length e2
        simp at this
        omega
      obtain ⟨ms, s10', s11', s12', m1, m2, run⟩ := reach_step (c := c) (script := script) (A := .int at') ho ho8 hw hp hk hk2 hwho r1 hb (row := row) (by omega) (s6 := some (.lst .sh, .lst (rows.map eR))) (s10 := s10) (s11 := s11) (s12 := s12)
      refine ⟨_, by simp, _, .inl run, row ++ [ms], _, _, _, _, rfl, by simp [w1], fun m hm => ?_⟩
      rcases List.mem_append.1 hm with hm | hm
      · exact w2 m hm
      · rw [List.mem_singleton.1 hm]; exact ⟨m2, m1⟩) ⟨[], s9, s10, s11, s12, rfl, rfl, fun m hm => absurd hm (by simp)⟩
    have hrl : rows.length < sizeLine := by rw [sl_eq]; omega
    refine ⟨_, by simp; rfl, [some (.sh, I script), some (.sh, .int at'), some (.sh, .lst (ws.map eW)), some (.sh, .lst (places.map eP)), some (.sh, .int o), some (.lst .sh, I r), some (.lst .sh, .lst ((rows ++ [row]).map eR)), some (.sh, nD k), some (.lst .sh, .lst (row.map eN)), s9', s10', s11', s12', none], .inl ?_, rows ++ [row], _, _, _, _, _, _, rfl, by simp [g1], fun s hs => ?_⟩
    · unfold law_reaches_l1b
      refine seq_nx (env' := [some (.sh, I script), some (.sh, .int at'), some (.sh, .lst (ws.map eW)), some (.sh, .lst (places.map eP)), some (.sh, .int o), some (.lst .sh, I r), some (.lst .sh, .lst (rows.map eR)), some (.sh, nD k), some (.lst .sh, .lst []), s9, s10, s11, s12, none]) (by simp [setS, cat_ok, frzE_run, ifS, andT, orT, notT, truE, truD, blT, cmpE, cmpD, subE, subS, varE, binE, blE, binD, negE, notE, andE, orE, chainE, retS, appS, augS, drpS, asgT, callV, evsE, tupV, lstV, litE, fldE, okArgs, Ow.ok, Ow.isSh, Ow.flat, sliE, partE, partD, sliD, mm2E, mm2D, rgE, rgD, isiE, forT, isD, idxE]) ?_
      refine seq_nx (for_nx (range_run (n := 2) (by simp [setS, cat_ok, frzE_run, ifS, andT, orT, notT, truE, truD, blT, cmpE, cmpD, subE, subS, varE, binE, blE, binD, negE, notE, andE, orE, chainE, retS, appS, augS, drpS, asgT, callV, evsE, tupV, lstV, litE, fldE, okArgs, Ow.ok, Ow.isSh, Ow.flat, sliE, partE, partD, sliD, mm2E, mm2D, rgE, rgD, isiE, forT, isD, idxE]) (by omega)) hf) ?_
      simp [setS, cat_ok, frzE_run, ifS, andT, orT, notT, truE, truD, blT, cmpE, cmpD, subE, subS, varE, binE, blE, binD, negE, notE, andE, orE, chainE, retS, appS, augS, drpS, asgT, callV, evsE, tupV, lstV, litE, fldE, okArgs, Ow.ok, Ow.isSh, Ow.flat, sliE, partE, partD, sliD, mm2E, mm2D, rgE, rgD, isiE, forT, isD, idxE, hrl]
    · rcases List.mem_append.1 hs with hs | hs
      · exact g2 s hs
      · rw [List.mem_singleton.1 hs]
        exact ⟨by simpa using w1, w2⟩) ⟨[], none, none, none, none, none, none, rfl, rfl, fun m hm => absurd hm (by simp)⟩
  refine ⟨rows, ⟨by simpa using g1, g2⟩, run_sh (o := .sh) rfl rfl (imms_of imm_eR _) ?_⟩
  unfold env0
  rw [hN]
  show b_law_reaches c [some (.sh, I script), some (.sh, .int at'), some (.sh, .lst (ws.map eW)), some (.sh, .lst (places.map eP)), some (.sh, .int o), none, none, none, none, none, none, none, none, none] = _
  unfold b_law_reaches
  refine seq_nx (reach_r0 (by rw [List.length_map]) m2 r3) ?_
  refine seq_nx (env' := [some (.sh, I script), some (.sh, .int at'), some (.sh, .lst (ws.map eW)), some (.sh, .lst (places.map eP)), some (.sh, .int o), some (.lst .sh, I r), some (.lst .sh, .lst []), none, none, none, none, none, none, none]) (by simp [setS, cat_ok, frzE_run, ifS, andT, orT, notT, truE, truD, blT, cmpE, cmpD, subE, subS, varE, binE, blE, binD, negE, notE, andE, orE, chainE, retS, appS, augS, drpS, asgT, callV, evsE, tupV, lstV, litE, fldE, okArgs, Ow.ok, Ow.isSh, Ow.flat, sliE, partE, partD, sliD, mm2E, mm2D, rgE, rgD, isiE, forT, isD, idxE]) ?_
  refine seq_nx (for_nx (range_run (n := places.length) (by simp [setS, cat_ok, frzE_run, ifS, andT, orT, notT, truE, truD, blT, cmpE, cmpD, subE, subS, varE, binE, blE, binD, negE, notE, andE, orE, chainE, retS, appS, augS, drpS, asgT, callV, evsE, tupV, lstV, litE, fldE, okArgs, Ow.ok, Ow.isSh, Ow.flat, sliE, partE, partD, sliD, mm2E, mm2D, rgE, rgD, isiE, forT, isD, idxE]) (by omega)) hf) ?_
  exact seq_rt (by simp [setS, cat_ok, frzE_run, ifS, andT, orT, notT, truE, truD, blT, cmpE, cmpD, subE, subS, varE, binE, blE, binD, negE, notE, andE, orE, chainE, retS, appS, augS, drpS, asgT, callV, evsE, tupV, lstV, litE, fldE, okArgs, Ow.ok, Ow.isSh, Ow.flat, sliE, partE, partD, sliD, mm2E, mm2D, rgE, rgD, isiE, forT, isD, idxE])
/-! ### the places asked -/
theorem asked_ok {c : Str → List D → R D} {N : List Str} (hN : N.length = 8) {script : List Int} (hr : RowC c script) {at' size : Nat} (hs : 1 ≤ size) : ∃ asked : List (Nat × Nat), (∀ q ∈ asked, q.1 < size ∧ q.2 < size) ∧ runD ⟨3, .lst .sh, false, []⟩ N (b_law_asked c) [I script, .int at', .int size] = .ok (.lst (asked.map eP)) := by
  by_cases h6 : size < 6
  · obtain ⟨env', hf, asked, s5, s6, rfl, g1, g2⟩ := forG_all (st := set1 5) (body := law_asked_l1b c) (fun pre env => ∃ (asked : List (Nat × Nat)) (s5 s6 : Option Sl), env = [some (.sh, I script), some (.sh, .int at'), some (.sh, .int size), some (.lst .sh, .lst (asked.map eP)), none, s5, s6, none] ∧ asked.length = pre.length * size ∧ ∀ q ∈ asked, q.1 < size ∧ q.2 < size) nD (xs := List.range size) (env := [some (.sh, I script), some (.sh, .int at'), some (.sh, .int size), some (.lst .sh, .lst []), none, none, none, none]) (fun pre a post env e h => by
      obtain ⟨asked, s5, s6, rfl, g1, g2⟩ := h
      have ha : a < size := by
        have : a ∈ List.range size := by rw [e]; simp
        simpa using this
      have hpre : pre.length ≤ size := by
        have := congrArg List.length e
        simp at this
        omega
      have hmul : pre.length * size ≤ 6 * 6 := Nat.mul_le_mul (by omega) (by omega)
      obtain ⟨env', hf, asked', s6', rfl, w1, w2⟩ := forG_all (st := set1 6) (body := law_asked_l2b c) (fun pre2 env => ∃ (asked' : List (Nat × Nat)) (s6 : Option Sl), env = [some (.sh, I script), some (.sh, .int at'), some (.sh, .int size), some (.lst .sh, .lst (asked'.map eP)), none, some (.sh, nD a), s6, none] ∧ asked'.length = asked.length + pre2.length ∧ ∀ q ∈ asked', q.1 < size ∧ q.2 < size) nD (xs := List.range size) (env := [some (.sh, I script), some (.sh, .int at'), some (.sh, .int size), some (.lst .sh, .lst (asked.map eP)), none, some (.sh, nD a), s6, none]) (fun pre2 b post2 env e2 h => by
        obtain ⟨asked', s6, rfl, w1, w2⟩ := h
        have hb : b < size := by
          have : b ∈ List.range size := by rw [e2]; simp
          simpa using this
        have hpre2 : pre2.length ≤ size := by
          have := congrArg List.length e2
          simp at this
          omega
        have hal : asked'.length < sizeLine := by rw [sl_eq]; omega
        have t2 : 2 ≤ sizeLine := by decide
        refine ⟨_, by simp; rfl, [some (.sh, I script), some (.sh, .int at'), some (.sh, .int size), some (.lst .sh, .lst ((asked' ++ [(a, b)]).map eP)), none, some (.sh, nD a), some (.sh, nD b), none], .inl (by simp [law_asked_l2b, setS, cat_ok, frzE_run, ifS, andT, orT, notT, truE, truD, blT, cmpE, cmpD, subE, subS, varE, binE, blE, binD, negE, notE, andE, orE, chainE, retS, appS, augS, drpS, asgT, callV, evsE, tupV, lstV, litE, fldE, okArgs, Ow.ok, Ow.isSh, Ow.flat, sliE, partE, partD, sliD, mm2E, mm2D, rgE, rgD, isiE, forT, isD, idxE, hal, t2]), asked' ++ [(a, b)], _, rfl, by simp [w1]; omega, fun q hq => ?_⟩
        rcases List.mem_append.1 hq with hq | hq
        · exact w2 q hq
        · rw [List.mem_singleton.1 hq]; exact ⟨ha, hb⟩) ⟨asked, s6, rfl, by simp, g2⟩
      refine ⟨_, by simp; rfl, _, .inl (?_ : _ = R.ok (Fl.nx [some (.sh, I script), some (.sh, .int at'), some (.sh, .int size), some (.lst .sh, .lst (asked'.map eP)), none, some (.sh, nD a), s6', none])), asked', _, _, rfl, ?_, w2⟩
      · unfold law_asked_l1b
        refine seq_nx (for_nx (range_run (n := size) (by simp [setS, cat_ok, frzE_run, ifS, andT, orT, notT, truE, truD, blT, cmpE, cmpD, subE, subS, varE, binE, blE, binD, negE, notE, andE, orE, chainE, retS, appS, augS, drpS, asgT, callV, evsE, tupV, lstV, litE, fldE, okArgs, Ow.ok, Ow.isSh, Ow.flat, sliE, partE, partD, sliD, mm2E, mm2D, rgE, rgD, isiE, forT, isD, idxE]) (by omega)) hf) ?_
        rfl
      · rw [w1, g1, List.length_append, List.length_range, List.length_singleton, Nat.add_mul, Nat.one_mul]) ⟨[], none, none, rfl, by simp, fun q hq => absurd hq (by simp)⟩
    refine ⟨asked, g2, run_lst rfl rfl (imms_of imm_eP _) ?_⟩
    unfold env0
    rw [hN]
    show b_law_asked c [some (.sh, I script), some (.sh, .int at'), some (.sh, .int size), none, none, none, none, none] = _
    unfold b_law_asked
    refine seq_nx (env' := [some (.sh, I script), some (.sh, .int at'), some (.sh, .int size), some (.lst .sh, .lst []), none, none, none, none]) (by simp [setS, cat_ok, frzE_run, ifS, andT, orT, notT, truE, truD, blT, cmpE, cmpD, subE, subS, varE, binE, blE, binD, negE, notE, andE, orE, chainE, retS, appS, augS, drpS, asgT, callV, evsE, tupV, lstV, litE, fldE, okArgs, Ow.ok, Ow.isSh, Ow.flat, sliE, partE, partD, sliD, mm2E, mm2D, rgE, rgD, isiE, forT, isD, idxE]) ?_
    refine seq_rt ?_
    have h6' : (size : Int) < 6 := by omega
    have hl := for_nx (l := []) (range_run (f := varB 2) (n := size) (env := [some (.sh, I script), some (.sh, .int at'), some (.sh, .int size), some (.lst .sh, .lst []), none, none, none, none]) (by simp) (by omega)) hf
    simp only [demS_eq, dem_nil] at hl
    simp [ifS, blT, cmpE, cmpD, litE, cat_ok, h6', hl, retS]
  · obtain ⟨r, r1, r2, r3⟩ := hr at' 24 (by omega)
    have hsz : ((size : Int) ≠ 0) := by omega
    refine ⟨(List.range 12).map fun i => (((lk r (2 * i)).fmod size).toNat, ((lk r (2 * i + 1)).fmod size).toNat), fun q hq => ?_, run_lst rfl rfl (imms_of imm_eP _) ?_⟩
    · obtain ⟨i, _, rfl⟩ := List.mem_map.1 hq
      have b1 := Int.fmod_nonneg_of_pos (lk r (2 * i)) (b := (size : Int)) (by omega)
      have b2 := Int.fmod_lt_of_pos (lk r (2 * i)) (b := (size : Int)) (by omega)
      have b3 := Int.fmod_nonneg_of_pos (lk r (2 * i + 1)) (b := (size : Int)) (by omega)
      have b4 := Int.fmod_lt_of_pos (lk r (2 * i + 1)) (b := (size : Int)) (by omega)
      constructor
      · show ((lk r (2 * i)).fmod size).toNat < size
        omega
      · show ((lk r (2 * i + 1)).fmod size).toNat < size
        omega
    unfold env0
    rw [hN]
    show b_law_asked c [some (.sh, I script), some (.sh, .int at'), some (.sh, .int size), none, none, none, none, none] = _
    unfold b_law_asked
    refine seq_nx (env' := [some (.sh, I script), some (.sh, .int at'), some (.sh, .int size), some (.lst .sh, .lst []), none, none, none, none]) (by simp [setS, cat_ok, frzE_run, ifS, andT, orT, notT, truE, truD, blT, cmpE, cmpD, subE, subS, varE, binE, blE, binD, negE, notE, andE, orE, chainE, retS, appS, augS, drpS, asgT, callV, evsE, tupV, lstV, litE, fldE, okArgs, Ow.ok, Ow.isSh, Ow.flat, sliE, partE, partD, sliD, mm2E, mm2D, rgE, rgD, isiE, forT, isD, idxE]) ?_
    have h6' : ¬ (size : Int) < 6 := by omega
    refine seq_nx (env' := [some (.sh, I script), some (.sh, .int at'), some (.sh, .int size), some (.lst .sh, .lst []), none, none, none, none]) (by simp [setS, cat_ok, frzE_run, ifS, andT, orT, notT, truE, truD, blT, cmpE, cmpD, subE, subS, varE, binE, blE, binD, negE, notE, andE, orE, chainE, retS, appS, augS, drpS, asgT, callV, evsE, tupV, lstV, litE, fldE, okArgs, Ow.ok, Ow.isSh, Ow.flat, sliE, partE, partD, sliD, mm2E, mm2D, rgE, rgD, isiE, forT, isD, idxE, h6']) ?_
    have r3' : c "_law_row" [I script, .int at', .int 24, .int 5040] = .ok (I r) := r3
    refine seq_nx (env' := [some (.sh, I script), some (.sh, .int at'), some (.sh, .int size), some (.lst .sh, .lst []), some (.lst .sh, I r), none, none, none]) (by simp [setS, cat_ok, frzE_run, ifS, andT, orT, notT, truE, truD, blT, cmpE, cmpD, subE, subS, varE, binE, blE, binD, negE, notE, andE, orE, chainE, retS, appS, augS, drpS, asgT, callV, evsE, tupV, lstV, litE, fldE, okArgs, Ow.ok, Ow.isSh, Ow.flat, sliE, partE, partD, sliD, mm2E, mm2D, rgE, rgD, isiE, forT, isD, idxE, r3']) ?_
    have e : law_asked_c1 c [some (.sh, I script), some (.sh, .int at'), some (.sh, .int size), some (.lst .sh, .lst []), some (.lst .sh, I r), none, none, none] = .ok (.lst .sh, .lst (((List.range 12).map fun i => (((lk r (2 * i)).fmod size).toNat, ((lk r (2 * i + 1)).fmod size).toNat)).map eP)) := by
      rw [List.map_map]
      refine comp_all nD (fun i => eP (((lk r (2 * i)).fmod size).toNat, ((lk r (2 * i + 1)).fmod size).toNat)) (List.range 12) (range_run (n := 12) (by simp [setS, cat_ok, frzE_run, ifS, andT, orT, notT, truE, truD, blT, cmpE, cmpD, subE, subS, varE, binE, blE, binD, negE, notE, andE, orE, chainE, retS, appS, augS, drpS, asgT, callV, evsE, tupV, lstV, litE, fldE, okArgs, Ow.ok, Ow.isSh, Ow.flat, sliE, partE, partD, sliD, mm2E, mm2D, rgE, rgD, isiE, forT, isD, idxE]) (by omega)) (by simp) fun i hi => ⟨_, by simp; rfl, ?_⟩
      have hi : i < 12 := by simpa using hi
      have b1 := Int.fmod_nonneg_of_pos (lk r (2 * i)) (b := (size : Int)) (by omega)
      have b3 := Int.fmod_nonneg_of_pos (lk r (2 * i + 1)) (b := (size : Int)) (by omega)
      have q1 : (2 * (i : Int)) = ((2 * i : Nat) : Int) := by omega
      have q2 : (2 * (i : Int) + 1) = ((2 * i + 1 : Nat) : Int) := by omega
      have s1 : subD (.lst .sh, I r) (.int (2 * (i : Int))) = .ok (.sh, .int (lk r (2 * i))) := by rw [q1]; exact sub_IO (by omega)
      have s2 : subD (.lst .sh, I r) (.int (2 * (i : Int) + 1)) = .ok (.sh, .int (lk r (2 * i + 1))) := by rw [q2]; exact sub_IO (by omega)
      have m1 : ∀ x, mulOk 2 x = true := fun x => mulOk_lc _ _ (by decide)
      have hsz2 : ¬ size = 0 := by omega
      have t2 : 2 ≤ sizeLine := by decide
      have z1 : ((((lk r (2 * i)).fmod size).toNat : Nat) : Int) = (lk r (2 * i)).fmod size := by omega
      have z2 : ((((lk r (2 * i + 1)).fmod size).toNat : Nat) : Int) = (lk r (2 * i + 1)).fmod size := by omega
      simp [setS, cat_ok, frzE_run, ifS, andT, orT, notT, truE, truD, blT, cmpE, cmpD, subE, subS, varE, binE, blE, binD, negE, notE, andE, orE, chainE, retS, appS, augS, drpS, asgT, callV, evsE, tupV, lstV, litE, fldE, okArgs, Ow.ok, Ow.isSh, Ow.flat, sliE, partE, partD, sliD, mm2E, mm2D, rgE, rgD, isiE, forT, isD, idxE, s1, s2, m1, hsz, hsz2, t2, eP, z1, z2]
    exact seq_rt (by simp [retS, cat_ok, e])
end K17
end
section
set_option Elab.async false
set_option linter.all false
set_option maxRecDepth 100000
set_option maxHeartbeats 1000000
open PySem PyD L2 PB
namespace K17
theorem g_right (n : Nat) {o np : Nat} {ws : List (List (List Int))} {told : List (List Nat)} (h : RuleOk 2 o ws told) {al : List Nat} {rows : List (List (List Nat))} (hb : BookOk o np rows) {asked : List (Nat × Nat)} (ha : ∀ q ∈ asked, q.1 < np ∧ q.2 < np) : S (n + 4) "_law_right_sets" [ruleD 2 o ws told, bookD al rows, .lst (ws.map eW), .lst (told.map eN), .tup (rows.map eR), .lst (asked.map eP)] = .ok (.bl true) := by
  refine (semAt_fn (d := d_law_right_sets) rfl (e_law_right_sets _)).trans (run_sh (o := .sh) rfl rfl (imm_bl _) ?_)
  show b_law_right_sets (S (n + 3)) [some (.sh, ruleD 2 o ws told), some (.sh, bookD al rows), some (.sh, .lst (ws.map eW)), some (.sh, .lst (told.map eN)), some (.sh, .tup (rows.map eR)), some (.sh, .lst (asked.map eP)), none, none] = _
  obtain ⟨env', hf, s6, s7, rfl⟩ := forG_all (st := set1 6) (body := law_right_sets_l1b (S (n + 3))) (fun pre env => ∃ s6 s7, env = [some (.sh, ruleD 2 o ws told), some (.sh, bookD al rows), some (.sh, .lst (ws.map eW)), some (.sh, .lst (told.map eN)), some (.sh, .tup (rows.map eR)), some (.sh, .lst (asked.map eP)), s6, s7]) eP (xs := asked) (env := [some (.sh, ruleD 2 o ws told), some (.sh, bookD al rows), some (.sh, .lst (ws.map eW)), some (.sh, .lst (told.map eN)), some (.sh, .tup (rows.map eR)), some (.sh, .lst (asked.map eP)), none, none]) (fun pre q post env e h' => by
    obtain ⟨s6, s7, rfl⟩ := h'
    obtain ⟨i, j⟩ := q
    obtain ⟨hi, hj⟩ := ha (i, j) (by rw [e]; simp)
    have hi' : i < rows.length := by rw [hb.len]; exact hi
    have hj' : j < rows.length := by rw [hb.len]; exact hj
    obtain ⟨i1, i2⟩ := hb.row _ (at0_mem hi')
    obtain ⟨j1, j2⟩ := hb.row _ (at0_mem hj')
    obtain ⟨m1, m2⟩ := i2 _ (at0_mem (by omega : 0 < (at0 rows i).length))
    obtain ⟨y1, y2⟩ := j2 _ (at0_mem (by omega : 1 < (at0 rows j).length))
    have s1 : subD (.sh, .tup (rows.map eR)) (.int i) = .ok (.sh, eR (at0 rows i)) := sub_ofT hi'
    have s2 : subD (.sh, .tup (rows.map eR)) (.int j) = .ok (.sh, eR (at0 rows j)) := sub_ofT hj'
    have s3 : subD (.sh, eR (at0 rows i)) (.int 0) = .ok (.sh, eN (at0 (at0 rows i) 0)) := sub_ofT (j := 0) (by omega)
    have s4 : subD (.sh, eR (at0 rows j)) (.int 1) = .ok (.sh, eN (at0 (at0 rows j) 1)) := sub_ofT (j := 1) (by omega)
    have p0 : subD (.sh, eP (i, j)) (.int 0) = .ok (.sh, .int i) := rfl
    have p1 : subD (.sh, eP (i, j)) (.int 1) = .ok (.sh, .int j) := rfl
    have c1 := g_lmiddles n (told := told) h.wd m2 y2 (by have := h.o8; omega) h.tn (by have := h.w8; omega)
    have c2 := g_middles n h rfl (al := al) hb hi hj
    have ml : (mids ws told (at0 (at0 rows i) 0) (at0 (at0 rows j) 1)).length ≤ 1000000 := by
      have : (mids ws told (at0 (at0 rows i) 0) (at0 (at0 rows j) 1)).length ≤ (at0 (at0 rows i) 0).length := List.length_filter_le _ _
      have := h.o8
      omega
    have c3 : S (n + 3) "_law_same" [eN (mids ws told (at0 (at0 rows i) 0) (at0 (at0 rows j) 1)), .lst ((mids ws told (at0 (at0 rows i) 0) (at0 (at0 rows j) 1)).map nD)] = .ok (.bl true) := g_same_N (b := true) (n + 1) ml
    generalize S (n + 3) = c at *
    generalize mids ws told (at0 (at0 rows i) 0) (at0 (at0 rows j) 1) = mm at *
    generalize at0 (at0 rows i) 0 = mine at *
    generalize at0 (at0 rows j) 1 = yours at *
    refine ⟨_, by simp; rfl, [some (.sh, ruleD 2 o ws told), some (.sh, bookD al rows), some (.sh, .lst (ws.map eW)), some (.sh, .lst (told.map eN)), some (.sh, .tup (rows.map eR)), some (.sh, .lst (asked.map eP)), some (.sh, eP (i, j)), some (.lst .sh, .lst (mm.map nD))], .inl ?_, _, _, rfl⟩
    unfold law_right_sets_l1b
    refine seq_nx (env' := [some (.sh, ruleD 2 o ws told), some (.sh, bookD al rows), some (.sh, .lst (ws.map eW)), some (.sh, .lst (told.map eN)), some (.sh, .tup (rows.map eR)), some (.sh, .lst (asked.map eP)), some (.sh, eP (i, j)), some (.lst .sh, .lst (mm.map nD))]) (by simp [setS, cat_ok, frzE_run, ifS, andT, orT, notT, truE, truD, blT, cmpE, cmpD, subE, subS, varE, binE, blE, binD, negE, notE, andE, orE, chainE, retS, appS, augS, drpS, asgT, callV, evsE, tupV, lstV, litE, fldE, okArgs, Ow.ok, Ow.isSh, Ow.flat, sliE, partE, partD, sliD, mm2E, mm2D, rgE, rgD, isiE, forT, isD, idxE, p0, p1, s1, s2, s3, s4, c1]) ?_
    simp [setS, cat_ok, frzE_run, ifS, andT, orT, notT, truE, truD, blT, cmpE, cmpD, subE, subS, varE, binE, blE, binD, negE, notE, andE, orE, chainE, retS, appS, augS, drpS, asgT, callV, evsE, tupV, lstV, litE, fldE, okArgs, Ow.ok, Ow.isSh, Ow.flat, sliE, partE, partD, sliD, mm2E, mm2D, rgE, rgD, isiE, forT, isD, idxE, p0, p1, c2, c3]) ⟨none, none, rfl⟩
  unfold b_law_right_sets
  refine seq_nx (for_nx (seq_run (s := (.sh, .lst (asked.map eP))) (by simp [varE]) rfl) hf) ?_
  simp [setS, cat_ok, frzE_run, ifS, andT, orT, notT, truE, truD, blT, cmpE, cmpD, subE, subS, varE, binE, blE, binD, negE, notE, andE, orE, chainE, retS, appS, augS, drpS, asgT, callV, evsE, tupV, lstV, litE, fldE, okArgs, Ow.ok, Ow.isSh, Ow.flat, sliE, partE, partD, sliD, mm2E, mm2D, rgE, rgD, isiE, forT, isD, idxE]
/-! ### turned rows -/
def rot {α : Type} (l : List α) : List α := l.drop 1 ++ l.take 1
theorem mem_rot {α : Type} {l : List α} {x : α} (h : x ∈ rot l) : x ∈ l := by
  rcases List.mem_append.1 h with h | h
  · exact List.mem_of_mem_drop h
  · exact List.mem_of_mem_take h
theorem len_rot {α : Type} (l : List α) : (rot l).length = l.length := by
  unfold rot
  rw [List.length_append, List.length_drop, List.length_take]
  omega
theorem sum_rot (l : List (List Nat)) : ((rot l).map List.length).sum = (l.map List.length).sum := by
  cases l with
  | nil => rfl
  | cons a b =>
    show ((b ++ [a]).map List.length).sum = _
    simp [Nat.add_comm]
theorem rot_run {o1 o2 : Ow} {xs : List D} (h : xs.length ≤ 1000) : binD .Add (.lst .sh, .lst (cutL xs (some 1) none)) (.lst .sh, .lst (cutL xs none (some 1))) = .ok (.lst .sh, .lst (rot xs)) := by
  have e1 : cutL xs (some 1) none = xs.drop 1 := cut_from (a := 1)
  have e2 : cutL xs none (some 1) = xs.take 1 := cut_to (b := 1)
  rw [e1, e2]
  have : (xs.drop 1).length + (xs.take 1).length ≤ sizeLine := by
    rw [List.length_drop, List.length_take, sl_eq]; omega
  unfold binD
  simp only [Ow.flat, Ow.isSh, Bool.true_and, decide_eq_true this, if_true]
  rfl
theorem rot_map {α β : Type} (f : α → β) (l : List α) : rot (l.map f) = (rot l).map f := by
  unfold rot
  simp [List.map_drop, List.map_take]
theorem RuleOk.turned {o : Nat} {ws : List (List (List Int))} {told : List (List Nat)} (h : RuleOk 2 o ws told) : RuleOk 2 o ((rot ws).map fun w => [at0 w 1, at0 w 0]) told := by
  refine ⟨h.p1, h.p4, h.o1, h.o8, by rw [List.length_map, len_rot]; exact h.w1, by rw [List.length_map, len_rot]; exact h.w8, fun w hw => ?_, by rw [List.length_map, len_rot]; exact h.tn, h.ts, h.t24⟩
  obtain ⟨v, hv, rfl⟩ := List.mem_map.1 hw
  obtain ⟨h1, h2⟩ := h.wd v (mem_rot hv)
  refine ⟨rfl, fun l hl => ?_⟩
  rcases List.mem_cons.1 hl with rfl | hl
  · exact h2 _ (at0_mem (by omega))
  · rw [List.mem_singleton.1 hl]; exact h2 _ (at0_mem (by omega))
theorem RuleOk.moved {o : Nat} {ws : List (List (List Int))} {told : List (List Nat)} (h : RuleOk 2 o ws told) : RuleOk 2 o ws (rot told) :=
  ⟨h.p1, h.p4, h.o1, h.o8, h.w1, h.w8, h.wd, by rw [len_rot]; exact h.tn, fun m hm => h.ts m (mem_rot hm), by rw [sum_rot]; exact h.t24⟩
/-! ### what is handed over -/
abbrev lN (m : List Nat) : D := .lst (m.map nD)
abbrev lR (s : List (List Nat)) : D := .lst (s.map lN)
theorem law_c3_ok {c : Str → List D → R D} {s : List (List Nat)} (hs : s.length = 2) {a0 a1 a2 a3 a4 a5 a6 a7 a8 a9 a10 a11 a12 a13 a14 a15 a16 a17 a18 a20 a21 : Option Sl} : law_c3 c [a0, a1, a2, a3, a4, a5, a6, a7, a8, a9, a10, a11, a12, a13, a14, a15, a16, a17, a18, some (.sh, eR s), a20, a21] = .ok (.lst (.lst .sh), lR s) := by
  refine comp_own (o := .lst .sh) rfl eN lN s (seq_run (s := (.sh, eR s)) (by simp [varE]) rfl) (by omega) (by intro z; rw [z] at hs; simp at hs) fun m hm => ⟨_, by simp; rfl, ?_⟩
  simp [setS, cat_ok, frzE_run, ifS, andT, orT, notT, truE, truD, blT, cmpE, cmpD, subE, subS, varE, binE, blE, binD, negE, notE, andE, orE, chainE, retS, appS, augS, drpS, asgT, callV, evsE, tupV, lstV, litE, fldE, okArgs, Ow.ok, Ow.isSh, Ow.flat, sliE, partE, partD, sliD, mm2E, mm2D, rgE, rgD, isiE, forT, isD, idxE]
theorem law_c4_ok {c : Str → List D → R D} {rows : List (List (List Nat))} (hl : rows.length ≤ 1000) (hne : rows ≠ []) (hs : ∀ s ∈ rows, s.length = 2) {a0 a1 a2 a3 a4 a5 a6 a7 a9 a10 a11 a12 a13 a14 a15 a16 a17 a18 a19 a20 a21 : Option Sl} : law_c4 c [a0, a1, a2, a3, a4, a5, a6, a7, some (.sh, .tup (rows.map eR)), a9, a10, a11, a12, a13, a14, a15, a16, a17, a18, a19, a20, a21] = .ok (.lst (.lst (.lst .sh)), .lst (rows.map lR)) := by
  refine comp_own (o := .lst (.lst .sh)) rfl eR lR rows (seq_run (s := (.sh, .tup (rows.map eR))) (by simp [varE]) rfl) (by omega) hne fun s hm => ⟨_, by simp; rfl, ?_⟩
  simp [law_c3_ok (hs s hm)]
theorem law_c5_ok {c : Str → List D → R D} {ws : List (List (List Int))} (hl : ws.length ≤ 1000) (hw : ∀ w ∈ ws, w.length = 2) {a0 a1 a2 a3 a5 a6 a7 a8 a9 a10 a11 a12 a13 a14 a15 a16 a17 a18 a19 a20 a21 : Option Sl} : law_c5 c [a0, a1, a2, a3, some (.lst .sh, .lst (ws.map eW)), a5, a6, a7, a8, a9, a10, a11, a12, a13, a14, a15, a16, a17, a18, a19, a20, a21] = .ok (.lst .sh, .lst (((rot ws).map fun w => [at0 w 1, at0 w 0]).map eW)) := by
  rw [List.map_map]
  refine comp_all eW (fun w => eW [at0 w 1, at0 w 0]) (rot ws) (seq_run (s := (.lst .sh, .lst ((rot ws).map eW))) ?_ rfl) (by rw [len_rot]; omega) fun w hww => ⟨_, by simp; rfl, ?_⟩
  · have := rot_run (o1 := .sh) (o2 := .sh) (xs := ws.map eW) (by rw [List.length_map]; exact hl)
    rw [rot_map] at this
    simp only [binE, sliE, partE, partD, sliD, varB_succ, varB_zero, R.bind_ok, litE, Ow.flat, Ow.isSh, if_true]
    exact this
  · have h2 := hw w (mem_rot hww)
    have q1 : subD (.sh, eW w) (.int 1) = .ok (.sh, eI (at0 w 1)) := sub_ofT (j := 1) (by omega)
    have q0 : subD (.sh, eW w) (.int 0) = .ok (.sh, eI (at0 w 0)) := sub_ofT (j := 0) (by omega)
    have t2 : 2 ≤ sizeLine := by decide
    simp [setS, cat_ok, frzE_run, ifS, andT, orT, notT, truE, truD, blT, cmpE, cmpD, subE, subS, varE, binE, blE, binD, negE, notE, andE, orE, chainE, retS, appS, augS, drpS, asgT, callV, evsE, tupV, lstV, litE, fldE, okArgs, Ow.ok, Ow.isSh, Ow.flat, sliE, partE, partD, sliD, mm2E, mm2D, rgE, rgD, isiE, forT, isD, idxE, q1, q0, t2]
end K17
end
section
set_option Elab.async false
set_option linter.all false
set_option maxRecDepth 100000
set_option maxHeartbeats 2000000
open PySem PyD L2 PB
namespace K17
theorem flat3 : Ow.ok (.lst (.lst (.lst .sh))) = true := rfl
theorem appP_run {i : Nat} {es : List Ev} {e : Ev} {env : DEnv} {o : Ow} {d d' : D} {is : List Int} {y : Sl} (h0 : env[i]? = some (some (o, d))) (h1 : intsE es env = .ok is) (h2 : pathL is o d = true) (h3 : e env = .ok y) (h4 : updO is (leafA y) o d = .ok d') : demS [] (appP i es e) env = .ok (.nx (setSlot i (o, d') env)) := by
  show appP i es e env = _
  unfold appP
  rw [h0]
  simp only [h1, h2, h3, h4, cat_ok, if_true, R.bind_ok]
theorem ixN0 {n : Nat} : ixN (n + 1) 0 = some 0 := ixN_lt (j := 0) (by omega)
theorem law_run (ns : List Int) (c : Str → List D → R D) (hc : c = S 11) : b_law c [some (.sh, I ns), none, none, none, none, none, none, none, none, none, none, none, none, none, none, none, none, none, none, none, none, none] = .ok (.rt (.sh, .bl true)) := by
  obtain ⟨r, r1, r2, r3⟩ := g_row 10 ns 0 5 (by omega)
  have r3' : S 11 "_law_row" [I ns, .int 0, .int 5, .int 5040] = .ok (I r) := r3
  have rs : ∀ j : Nat, j < 5 → subD (.lst .sh, I r) (.int j) = .ok (.sh, .int (lk r j)) := fun j hj => sub_IO (by omega)
  have rs0 : subD (.lst .sh, I r) (.int 0) = .ok (.sh, .int (lk r 0)) := rs 0 (by omega)
  have rs1 : subD (.lst .sh, I r) (.int 1) = .ok (.sh, .int (lk r 1)) := rs 1 (by omega)
  have rs2 : subD (.lst .sh, I r) (.int 2) = .ok (.sh, .int (lk r 2)) := rs 2 (by omega)
  have rs3 : subD (.lst .sh, I r) (.int 3) = .ok (.sh, .int (lk r 3)) := rs 3 (by omega)
  have rs4 : subD (.lst .sh, I r) (.int 4) = .ok (.sh, .int (lk r 4)) := rs 4 (by omega)
  have fm : ∀ (x m : Int), 0 < m → ∃ k : Nat, x.fmod m = k ∧ (k : Int) < m := fun x m hm => by
    have b1 := Int.fmod_nonneg_of_pos x hm
    have b2 := Int.fmod_lt_of_pos x hm
    exact ⟨(x.fmod m).toNat, by omega, by omega⟩
  obtain ⟨j0, q0, q0'⟩ := fm (lk r 0) 8 (by omega)
  obtain ⟨j1, q1, q1'⟩ := fm (lk r 1) 3 (by omega)
  obtain ⟨j2, q2, q2'⟩ := fm (lk r 1) 8 (by omega)
  -- outcomes and count
  have t8 : ∀ j, j < 8 → 1 ≤ nt [2, 3, 4, 1, 3, 2, 3, 4] j ∧ nt [2, 3, 4, 1, 3, 2, 3, 4] j ≤ 8 := by decide
  have pick : ∃ o cnt : Nat, (1 ≤ o ∧ o ≤ 8) ∧ (1 ≤ cnt ∧ cnt ≤ 8) ∧ (demS [] (ifS (blT (cmpE .Eq (binE .Mod (blE .int (subE (varB 1) (litE (.int 2)))) (litE (.int 6))) (litE (.int 5)))) (seqV [(demS [] (setS 2 (binE .Add (litE (.int 1)) (binE .Mod (blE .int (subE (varB 1) (litE (.int 0)))) (litE (.int 8)))))), (demS [] (setS 3 (binE .Add (litE (.int 1)) (binE .Mod (blE .int (subE (varB 1) (litE (.int 1)))) (litE (.int 8))))))]) (seqV []))) [some (.sh, I ns), some (.lst .sh, I r), some (.sh, nD (nt [2, 3, 4, 1, 3, 2, 3, 4] j0)), some (.sh, .int (1 + (lk r 1).fmod 3)), none, none, none, none, none, none, none, none, none, none, none, none, none, none, none, none, none, none] = .ok (.nx [some (.sh, I ns), some (.lst .sh, I r), some (.sh, .int o), some (.sh, .int cnt), none, none, none, none, none, none, none, none, none, none, none, none, none, none, none, none, none, none]) := by
    by_cases h : (lk r 2).fmod 6 = 5
    · refine ⟨1 + j0, 1 + j2, by omega, by omega, ?_⟩
      have z1 : 1 + (lk r 0).fmod 8 = ((1 + j0 : Nat) : Int) := by omega
      have z2 : 1 + (lk r 1).fmod 8 = ((1 + j2 : Nat) : Int) := by omega
      rw [← z1, ← z2]
      simp [setS, cat_ok, frzE_run, ifS, andT, orT, notT, truE, truD, blT, cmpE, cmpD, subE, subS, varE, binE, blE, binD, negE, notE, andE, orE, chainE, retS, appS, augS, drpS, asgT, callV, evsE, tupV, lstV, litE, fldE, okArgs, Ow.ok, Ow.isSh, Ow.flat, sliE, partE, partD, sliD, mm2E, mm2D, rgE, rgD, isiE, forT, isD, idxE, rs0, rs1, rs2, h]
    · refine ⟨nt [2, 3, 4, 1, 3, 2, 3, 4] j0, 1 + j1, t8 j0 (by omega), by omega, ?_⟩
      have z2 : 1 + (lk r 1).fmod 3 = ((1 + j1 : Nat) : Int) := by omega
      rw [← z2]
      simp [setS, cat_ok, frzE_run, ifS, andT, orT, notT, truE, truD, blT, cmpE, cmpD, subE, subS, varE, binE, blE, binD, negE, notE, andE, orE, chainE, retS, appS, augS, drpS, asgT, callV, evsE, tupV, lstV, litE, fldE, okArgs, Ow.ok, Ow.isSh, Ow.flat, sliE, partE, partD, sliD, mm2E, mm2D, rgE, rgD, isiE, forT, isD, idxE, rs0, rs1, rs2, h]
  obtain ⟨o, cnt, ⟨o1, o8⟩, ⟨n1, n8⟩, hpick⟩ := pick
  have tab : subD (.lst .sh, .lst [.int 2, .int 3, .int 4, .int 1, .int 3, .int 2, .int 3, .int 4]) (.int j0) = .ok (.sh, nD (nt [2, 3, 4, 1, 3, 2, 3, 4] j0)) := sub_lN (o := .sh) (t := [2, 3, 4, 1, 3, 2, 3, 4]) (by simp; omega)
  -- worlds
  obtain ⟨f, hf⟩ := Classical.skolem.1 fun n : Nat => g_world 9 (script := ns) (at' := 1 + n) (p := 2) (o := o) (by omega) (by omega)
  have hws : ∀ w ∈ (List.range cnt).map f, WOk 2 o w := fun w hw => by
    obtain ⟨n, _, rfl⟩ := List.mem_map.1 hw
    exact (hf n).1
  have hwl : ((List.range cnt).map f).length = cnt := by simp
  have c1 : law_c1 (S 11) [some (.sh, I ns), some (.lst .sh, I r), some (.sh, .int o), some (.sh, .int cnt), none, none, none, none, none, none, none, none, none, none, none, none, none, none, none, none, none, none] = .ok (.lst .sh, .lst (((List.range cnt).map f).map eW)) := by
    rw [List.map_map]
    refine comp_all nD (fun n => eW (f n)) (List.range cnt) (range_run (n := cnt) (by simp) (by omega)) (by rw [List.length_range]; omega) fun n hn => ⟨_, by simp; rfl, ?_⟩
    have z : (1 + (n : Int)) = ((1 + n : Nat) : Int) := by omega
    have h2 : S 11 "_law_world" [I ns, .int (1 + (n : Int)), .int 2, .int o] = .ok (eW (f n)) := by rw [z]; exact (hf n).2
    generalize S 11 = c at h2
    simp [setS, cat_ok, frzE_run, ifS, andT, orT, notT, truE, truD, blT, cmpE, cmpD, subE, subS, varE, binE, blE, binD, negE, notE, andE, orE, chainE, retS, appS, augS, drpS, asgT, callV, evsE, tupV, lstV, litE, fldE, okArgs, Ow.ok, Ow.isSh, Ow.flat, sliE, partE, partD, sliD, mm2E, mm2D, rgE, rgD, isiE, forT, isD, idxE, h2]
  generalize (List.range cnt).map f = ws at hws hwl c1
  -- told
  obtain ⟨told, d1, d2, d3, d4⟩ := g_told 9 (script := ns) (at' := 9) (way := (lk r 3).fmod 4) o1 o8 (by omega : 2 ≤ 4) (ws := ws) (by omega) hws
  have d4' : S 11 "_law_told" [I ns, .int 9, .lst (ws.map eW), .int o, .int ((lk r 3).fmod 4)] = .ok (.lst (told.map eN)) := d4
  have hro : RuleOk 2 o ws told := ⟨by omega, by omega, o1, o8, by omega, by omega, hws, d1, d2, d3⟩
  have p4 : S 11 "_law_pairs" [.lst (told.map eN)] = .ok (.lst ((pairsOf told).map eP)) := g_pairs 10 d3 (by omega)
  have ru : ∀ {ws : List (List (List Int))} {told : List (List Nat)}, RuleOk 2 o ws told → S 11 "Rule" [.int 2, .int o, .lst (ws.map eW), .lst (told.map eN)] = .ok (ruleD 2 o ws told) := fun h => g_rule 7 (b1 := true) (b2 := false) (b3 := false) (b4 := true) (b5 := false) h
  have ru0 := ru hro
  have hpp : ∀ q ∈ pairsOf told, q.1 < o ∧ q.2 < ws.length := fun q hq => by
    unfold pairsOf at hq
    obtain ⟨n, hn, hq⟩ := List.mem_flatMap.1 hq
    obtain ⟨x, hx, rfl⟩ := List.mem_map.1 hq
    have hn : n < told.length := by simpa using hn
    exact ⟨(d2 _ (at0_mem hn)).lt x hx, by show n < _; omega⟩
  have hpl : (pairsOf told).length ≤ 24 := by rw [pairs_len]; exact d3
  have hp1 : 1 ≤ (pairsOf told).length := by
    have h0 : 0 < told.length := by omega
    have hne := (d2 _ (at0_mem h0)).ne
    unfold pairsOf
    cases hq : (List.range told.length).flatMap (fun n => (at0 told n).map fun x => (x, n)) with
    | cons a b => simp
    | nil =>
      rw [List.flatMap_eq_nil_iff] at hq
      have := hq 0 (by simpa using h0)
      exact absurd (List.map_eq_nil_iff.1 this) hne
  -- reaches
  have rea : ∀ at' : Nat, ∃ rows : List (List (List Nat)), BookOk o (pairsOf told).length rows ∧ S 11 "_law_reaches" [I ns, .int at', .lst (ws.map eW), .lst ((pairsOf told).map eP), .int o] = .ok (.tup (rows.map eR)) := fun at' => by
    obtain ⟨rows, a, b⟩ := reaches_ok (c := S 10) (N := d_law_reaches.N) rfl (g_row 9 ns) (at' := at') o1 o8 hws hpp (by omega) (fun hk hl hx hn hwho => g_below 9 hws hk hl hx hn hwho)
    exact ⟨rows, a, (semAt_fn (d := d_law_reaches) rfl (e_law_reaches _)).trans b⟩
  obtain ⟨first, fb, fr⟩ := rea 17
  obtain ⟨second, sb, sr⟩ := rea 18
  have fr' : S 11 "_law_reaches" [I ns, .int 17, .lst (ws.map eW), .lst ((pairsOf told).map eP), .int o] = .ok (.tup (first.map eR)) := fr
  have sr' : S 11 "_law_reaches" [I ns, .int 18, .lst (ws.map eW), .lst ((pairsOf told).map eP), .int o] = .ok (.tup (second.map eR)) := sr
  obtain ⟨asked, ak1, ak2⟩ := asked_ok (c := S 10) (N := d_law_asked.N) rfl (g_row 9 ns) (at' := 19) hp1
  have ak3 : S 11 "_law_asked" [I ns, .int 19, .int (pairsOf told).length] = .ok (.lst (asked.map eP)) := (semAt_fn (d := d_law_asked) rfl (e_law_asked _)).trans ak2
  have fl : first.length ≤ 1000 := by rw [fb.len]; omega
  have sl : second.length ≤ 1000 := by rw [sb.len]; omega
  -- allowed
  obtain ⟨ka, qa, qa'⟩ := fm (lk r 4) ((o : Int) + 1) (by omega)
  generalize hal : List.range ka = al
  have all : al.length ≤ 1000 := by rw [← hal, List.length_range]; omega
  have c2 : ∀ {a3 a4 a5 a6 a7 a8 a9 a10 : Option Sl}, law_c2 (S 11) [some (.sh, I ns), some (.lst .sh, I r), some (.sh, .int o), a3, a4, a5, a6, a7, a8, a9, a10, none, none, none, none, none, none, none, none, none, none, none] = .ok (.lst .sh, .lst (al.map nD)) := by
    intro a3 a4 a5 a6 a7 a8 a9 a10
    rw [← hal]
    have oz : ¬ ((o : Int) + 1 = 0) := by omega
    refine comp_all nD nD (List.range ka) (range_run (n := ka) (by simp [setS, cat_ok, frzE_run, ifS, andT, orT, notT, truE, truD, blT, cmpE, cmpD, subE, subS, varE, binE, blE, binD, negE, notE, andE, orE, chainE, retS, appS, augS, drpS, asgT, callV, evsE, tupV, lstV, litE, fldE, okArgs, Ow.ok, Ow.isSh, Ow.flat, sliE, partE, partD, sliD, mm2E, mm2D, rgE, rgD, isiE, forT, isD, idxE, rs4, oz, qa]) (by omega)) (by rw [List.length_range]; omega) fun n hn => ⟨_, by simp; rfl, ?_⟩
    simp [setS, cat_ok, frzE_run, ifS, andT, orT, notT, truE, truD, blT, cmpE, cmpD, subE, subS, varE, binE, blE, binD, negE, notE, andE, orE, chainE, retS, appS, augS, drpS, asgT, callV, evsE, tupV, lstV, litE, fldE, okArgs, Ow.ok, Ow.isSh, Ow.flat, sliE, partE, partD, sliD, mm2E, mm2D, rgE, rgD, isiE, forT, isD, idxE]
  -- books
  have lens : ∀ {rows : List (List (List Nat))}, BookOk o (pairsOf told).length rows → ∀ s ∈ rows, s.length ≤ 1000 := fun h s hs => by have := (h.row s hs).1; omega
  have lens2 : ∀ {rows : List (List (List Nat))}, BookOk o (pairsOf told).length rows → ∀ s ∈ rows, s.length ≤ 1000 ∧ ∀ m ∈ s, m.length ≤ 1000 := fun h s hs => ⟨lens h s hs, fun m hm => by have := ((h.row s hs).2 m hm).1; omega⟩
  have bk1 : S 11 "Book" [.lst (al.map nD), .lst (first.map lR)] = .ok (bookD al first) := g_book 10 (b0 := true) (b1 := true) (b2 := true) (b3 := true) fl (lens fb)
  have bk2 : S 11 "Book" [.tup (al.map nD), .tup (second.map eR)] = .ok (bookD al second) := g_book 10 (b0 := false) (b1 := false) (b2 := false) (b3 := false) sl (lens sb)
  have sa : S 11 "_law_same" [eN al, .lst (al.map nD)] = .ok (.bl true) := g_same_N (b := true) 9 (by omega)
  have s1 : S 11 "_law_same" [.tup (first.map eR), .tup (first.map eR)] = .ok (.bl true) := g_same_R 7 fl (lens2 fb)
  have s2 : S 11 "_law_same" [.tup (second.map eR), .tup (second.map eR)] = .ok (.bl true) := g_same_R 7 sl (lens2 sb)
  have rr : ∀ {ws : List (List (List Int))} {told : List (List Nat)} {rows : List (List (List Nat))}, RuleOk 2 o ws told → BookOk o (pairsOf told).length rows → True := fun _ _ => trivial
  have w1 := g_right 7 hro (al := al) fb ak1
  have w2 := g_right 7 hro (al := al) sb ak1
  have w3 := g_right 7 (RuleOk.turned hro) (al := al) fb ak1
  have w4 := g_right 7 (RuleOk.moved hro) (al := al) fb ak1
  have ru1 := ru (RuleOk.turned hro)
  have ru2 := ru (RuleOk.moved hro)
  -- what is handed over
  have c4 := fun {a0 a1 a2 a3 a4 a5 a6 a7 a9 a10 a11 a12 a13 a14 a15 a16 a17 a18 a19 a20 a21 : Option Sl} => law_c4_ok (c := S 11) fl (by intro z; have := fb.len; rw [z] at this; simp at this; omega) (fun s hs => (fb.row s hs).1) (a0 := a0) (a1 := a1) (a2 := a2) (a3 := a3) (a4 := a4) (a5 := a5) (a6 := a6) (a7 := a7) (a9 := a9) (a10 := a10) (a11 := a11) (a12 := a12) (a13 := a13) (a14 := a14) (a15 := a15) (a16 := a16) (a17 := a17) (a18 := a18) (a19 := a19) (a20 := a20) (a21 := a21)
  have c5 := fun {a0 a1 a2 a3 a5 a6 a7 a8 a9 a10 a11 a12 a13 a14 a15 a16 a17 a18 a19 a20 a21 : Option Sl} => law_c5_ok (c := S 11) (by omega : ws.length ≤ 1000) (fun w hw => (hws w hw).1) (a0 := a0) (a1 := a1) (a2 := a2) (a3 := a3) (a5 := a5) (a6 := a6) (a7 := a7) (a8 := a8) (a9 := a9) (a10 := a10) (a11 := a11) (a12 := a12) (a13 := a13) (a14 := a14) (a15 := a15) (a16 := a16) (a17 := a17) (a18 := a18) (a19 := a19) (a20 := a20) (a21 := a21)
  generalize ((rot ws).map fun w => [at0 w 1, at0 w 0]) = turned at *
  have c6 := rot_run (o1 := .sh) (o2 := .sh) (xs := told.map eN) (by rw [List.length_map]; omega)
  rw [rot_map] at c6
  generalize rot told = moved at *
  rw [← hc] at r3' c1 d4' p4 ru0 fr' sr' ak3 c2 bk1 bk2 sa s1 s2 w1 w2 w3 w4 ru1 ru2 c4 c5
  clear hc
  -- the three changes
  obtain ⟨s0, rest, hfirst⟩ : ∃ s0 rest, first = s0 :: rest := by
    cases hq : first with
    | nil => have := fb.len; rw [hq] at this; simp at this; omega
    | cons a b => exact ⟨a, b, rfl⟩
  have h02 := two (fb.row s0 (by rw [hfirst]; simp)).1
  generalize at0 s0 0 = m0 at h02
  generalize at0 s0 1 = m1 at h02
  have m0l : m0.length ≤ 1000 := by
    have := ((fb.row s0 (by rw [hfirst]; simp)).2 m0 (by rw [h02]; simp)).1
    omega
  have rl : rest.length ≤ 1000 := by rw [hfirst] at fl; simp at fl; omega
  unfold b_law
  refine seq_nx (by simp [setS, cat_ok, frzE_run, ifS, andT, orT, notT, truE, truD, blT, cmpE, cmpD, subE, subS, varE, binE, blE, binD, negE, notE, andE, orE, chainE, retS, appS, augS, drpS, asgT, callV, evsE, tupV, lstV, litE, fldE, okArgs, Ow.ok, Ow.isSh, Ow.flat, sliE, partE, partD, sliD, mm2E, mm2D, rgE, rgD, isiE, forT, isD, idxE, r3']; rfl) ?_
  refine seq_nx (env' := [some (.sh, I ns), some (.lst .sh, I r), some (.sh, nD (nt [2, 3, 4, 1, 3, 2, 3, 4] j0)), none, none, none, none, none, none, none, none, none, none, none, none, none, none, none, none, none, none, none]) ?_ ?_
  · have t8' : 8 ≤ sizeLine := by decide
    simp [setS, cat_ok, frzE_run, ifS, andT, orT, notT, truE, truD, blT, cmpE, cmpD, subE, subS, varE, binE, blE, binD, negE, notE, andE, orE, chainE, retS, appS, augS, drpS, asgT, callV, evsE, tupV, lstV, litE, fldE, okArgs, Ow.ok, Ow.isSh, Ow.flat, sliE, partE, partD, sliD, mm2E, mm2D, rgE, rgD, isiE, forT, isD, idxE, rs0, q0, tab, oneOw, t8']
  refine seq_nx (env' := [some (.sh, I ns), some (.lst .sh, I r), some (.sh, nD (nt [2, 3, 4, 1, 3, 2, 3, 4] j0)), some (.sh, .int (1 + (lk r 1).fmod 3)), none, none, none, none, none, none, none, none, none, none, none, none, none, none, none, none, none, none]) (by simp [setS, cat_ok, frzE_run, ifS, andT, orT, notT, truE, truD, blT, cmpE, cmpD, subE, subS, varE, binE, blE, binD, negE, notE, andE, orE, chainE, retS, appS, augS, drpS, asgT, callV, evsE, tupV, lstV, litE, fldE, okArgs, Ow.ok, Ow.isSh, Ow.flat, sliE, partE, partD, sliD, mm2E, mm2D, rgE, rgD, isiE, forT, isD, idxE, rs1]) ?_
  refine seq_nx hpick ?_
  refine seq_nx (by simp [setS, cat_ok, c1]; rfl) ?_
  refine seq_nx (by simp [setS, cat_ok, frzE_run, ifS, andT, orT, notT, truE, truD, blT, cmpE, cmpD, subE, subS, varE, binE, blE, binD, negE, notE, andE, orE, chainE, retS, appS, augS, drpS, asgT, callV, evsE, tupV, lstV, litE, fldE, okArgs, Ow.ok, Ow.isSh, Ow.flat, sliE, partE, partD, sliD, mm2E, mm2D, rgE, rgD, isiE, forT, isD, idxE, rs3, d4']; rfl) ?_
  refine seq_nx (by simp [setS, cat_ok, frzE_run, ifS, andT, orT, notT, truE, truD, blT, cmpE, cmpD, subE, subS, varE, binE, blE, binD, negE, notE, andE, orE, chainE, retS, appS, augS, drpS, asgT, callV, evsE, tupV, lstV, litE, fldE, okArgs, Ow.ok, Ow.isSh, Ow.flat, sliE, partE, partD, sliD, mm2E, mm2D, rgE, rgD, isiE, forT, isD, idxE, p4]; rfl) ?_
  refine seq_nx (by simp [setS, cat_ok, frzE_run, ifS, andT, orT, notT, truE, truD, blT, cmpE, cmpD, subE, subS, varE, binE, blE, binD, negE, notE, andE, orE, chainE, retS, appS, augS, drpS, asgT, callV, evsE, tupV, lstV, litE, fldE, okArgs, Ow.ok, Ow.isSh, Ow.flat, sliE, partE, partD, sliD, mm2E, mm2D, rgE, rgD, isiE, forT, isD, idxE, ru0]; rfl) ?_
  refine seq_nx (by simp [setS, cat_ok, frzE_run, ifS, andT, orT, notT, truE, truD, blT, cmpE, cmpD, subE, subS, varE, binE, blE, binD, negE, notE, andE, orE, chainE, retS, appS, augS, drpS, asgT, callV, evsE, tupV, lstV, litE, fldE, okArgs, Ow.ok, Ow.isSh, Ow.flat, sliE, partE, partD, sliD, mm2E, mm2D, rgE, rgD, isiE, forT, isD, idxE, fr']; rfl) ?_
  refine seq_nx (by simp [setS, cat_ok, frzE_run, ifS, andT, orT, notT, truE, truD, blT, cmpE, cmpD, subE, subS, varE, binE, blE, binD, negE, notE, andE, orE, chainE, retS, appS, augS, drpS, asgT, callV, evsE, tupV, lstV, litE, fldE, okArgs, Ow.ok, Ow.isSh, Ow.flat, sliE, partE, partD, sliD, mm2E, mm2D, rgE, rgD, isiE, forT, isD, idxE, sr']; rfl) ?_
  refine seq_nx (by simp [setS, cat_ok, c2]; rfl) ?_
  have ft : fit (depO 3) (.lst (.lst (.lst .sh)), .lst (first.map lR)) = .ok (.lst (.lst (.lst .sh)), .lst (first.map lR)) := by rw [hfirst]; rfl
  refine seq_nx (by simp [setO, cat_ok, c4, ft]; rfl) ?_
  refine seq_nx (by simp [setS, cat_ok, frzE_run, ifS, andT, orT, notT, truE, truD, blT, cmpE, cmpD, subE, subS, varE, binE, blE, binD, negE, notE, andE, orE, chainE, retS, appS, augS, drpS, asgT, callV, evsE, tupV, lstV, litE, fldE, okArgs, Ow.ok, Ow.isSh, Ow.flat, sliE, partE, partD, sliD, mm2E, mm2D, rgE, rgD, isiE, forT, isD, idxE, bk1]; rfl) ?_
  have z1 : m0.length < sizeLine := by rw [sl_eq]; omega
  have z2 : 2 < sizeLine := by decide
  have z3 : rest.length + 1 < sizeLine := by rw [sl_eq]; omega
  have z4 : 1 ≤ sizeLine := by decide
  refine seq_nx (appP_run (is := [0, 0]) (y := (.sh, .int ((o : Int) - 1))) (o := .lst (.lst (.lst .sh))) (d := .lst (first.map lR)) (d' := .lst (.lst [.lst (m0.map nD ++ [.int ((o : Int) - 1)]), lN m1] :: rest.map lR)) rfl (by simp [intsE, litE, intD, noExc]) (by rw [hfirst, h02]; simp [pathL, pathOk, updO, leafL, ixN0, R.isOk]) (by simp [setS, cat_ok, frzE_run, ifS, andT, orT, notT, truE, truD, blT, cmpE, cmpD, subE, subS, varE, binE, blE, binD, negE, notE, andE, orE, chainE, retS, appS, augS, drpS, asgT, callV, evsE, tupV, lstV, litE, fldE, okArgs, Ow.ok, Ow.isSh, Ow.flat, sliE, partE, partD, sliD, mm2E, mm2D, rgE, rgD, isiE, forT, isD, idxE]) (by rw [hfirst, h02]; simp [updO, leafA, fitS, fit, owEq, ixN0, z1])) ?_
  refine seq_nx (appP_run (is := [0]) (y := (.lst .sh, .lst [.int 0])) (o := .lst (.lst (.lst .sh))) (d := .lst (.lst [.lst (m0.map nD ++ [.int ((o : Int) - 1)]), lN m1] :: rest.map lR)) (d' := .lst (.lst [.lst (m0.map nD ++ [.int ((o : Int) - 1)]), lN m1, .lst [.int 0]] :: rest.map lR)) rfl (by simp [intsE, litE, intD, noExc]) (by simp [pathL, pathOk, updO, leafL, ixN0, R.isOk]) (by simp [setS, cat_ok, frzE_run, ifS, andT, orT, notT, truE, truD, blT, cmpE, cmpD, subE, subS, varE, binE, blE, binD, negE, notE, andE, orE, chainE, retS, appS, augS, drpS, asgT, callV, evsE, tupV, lstV, litE, fldE, okArgs, Ow.ok, Ow.isSh, Ow.flat, sliE, partE, partD, sliD, mm2E, mm2D, rgE, rgD, isiE, forT, isD, idxE, lstW, oneOw, z4]) (by simp [updO, leafA, fitS, fit, owEq, ixN0, z2, coe])) ?_
  refine seq_nx (appP_run (is := []) (y := (.lst .sh, .lst [])) (o := .lst (.lst (.lst .sh))) (d := .lst (.lst [.lst (m0.map nD ++ [.int ((o : Int) - 1)]), lN m1, .lst [.int 0]] :: rest.map lR)) (d' := .lst ((.lst [.lst (m0.map nD ++ [.int ((o : Int) - 1)]), lN m1, .lst [.int 0]] :: rest.map lR) ++ [.lst []])) rfl (by simp [intsE]) (by simp [pathL, pathOk, updO, leafL, R.isOk]) (by simp [setS, cat_ok, frzE_run, ifS, andT, orT, notT, truE, truD, blT, cmpE, cmpD, subE, subS, varE, binE, blE, binD, negE, notE, andE, orE, chainE, retS, appS, augS, drpS, asgT, callV, evsE, tupV, lstV, litE, fldE, okArgs, Ow.ok, Ow.isSh, Ow.flat, sliE, partE, partD, sliD, mm2E, mm2D, rgE, rgD, isiE, forT, isD, idxE, lstW, oneOw]) (by simp [updO, leafA, fitS, fit, owEq, z3])) ?_
  simp only [setSlot_succ, setSlot_zero]
  generalize (D.lst ((D.lst [D.lst (m0.map nD ++ [D.int ((o : Int) - 1)]), lN m1, D.lst [D.int 0]] :: rest.map lR) ++ [D.lst []])) = junk
  refine seq_nx (by simp [setS, cat_ok, frzE_run, ifS, andT, orT, notT, truE, truD, blT, cmpE, cmpD, subE, subS, varE, binE, blE, binD, negE, notE, andE, orE, chainE, retS, appS, augS, drpS, asgT, callV, evsE, tupV, lstV, litE, fldE, okArgs, Ow.ok, Ow.isSh, Ow.flat, sliE, partE, partD, sliD, mm2E, mm2D, rgE, rgD, isiE, forT, isD, idxE, bk2]; rfl) ?_
  refine seq_nx (by simp [setS, cat_ok, frzE_run, ifS, andT, orT, notT, truE, truD, blT, cmpE, cmpD, subE, subS, varE, binE, blE, binD, negE, notE, andE, orE, chainE, retS, appS, augS, drpS, asgT, callV, evsE, tupV, lstV, litE, fldE, okArgs, Ow.ok, Ow.isSh, Ow.flat, sliE, partE, partD, sliD, mm2E, mm2D, rgE, rgD, isiE, forT, isD, idxE, fld_allowed, fld_reach, sa, s1]; rfl) ?_
  refine seq_nx (by simp [setS, cat_ok, frzE_run, ifS, andT, orT, notT, truE, truD, blT, cmpE, cmpD, subE, subS, varE, binE, blE, binD, negE, notE, andE, orE, chainE, retS, appS, augS, drpS, asgT, callV, evsE, tupV, lstV, litE, fldE, okArgs, Ow.ok, Ow.isSh, Ow.flat, sliE, partE, partD, sliD, mm2E, mm2D, rgE, rgD, isiE, forT, isD, idxE, fld_allowed, fld_reach, sa, s2]; rfl) ?_
  refine seq_nx (by simp [setS, cat_ok, frzE_run, ifS, andT, orT, notT, truE, truD, blT, cmpE, cmpD, subE, subS, varE, binE, blE, binD, negE, notE, andE, orE, chainE, retS, appS, augS, drpS, asgT, callV, evsE, tupV, lstV, litE, fldE, okArgs, Ow.ok, Ow.isSh, Ow.flat, sliE, partE, partD, sliD, mm2E, mm2D, rgE, rgD, isiE, forT, isD, idxE, ak3]; rfl) ?_
  refine seq_nx (by simp [setS, cat_ok, frzE_run, ifS, andT, orT, notT, truE, truD, blT, cmpE, cmpD, subE, subS, varE, binE, blE, binD, negE, notE, andE, orE, chainE, retS, appS, augS, drpS, asgT, callV, evsE, tupV, lstV, litE, fldE, okArgs, Ow.ok, Ow.isSh, Ow.flat, sliE, partE, partD, sliD, mm2E, mm2D, rgE, rgD, isiE, forT, isD, idxE, w1]; rfl) ?_
  refine seq_nx (by simp [setS, cat_ok, frzE_run, ifS, andT, orT, notT, truE, truD, blT, cmpE, cmpD, subE, subS, varE, binE, blE, binD, negE, notE, andE, orE, chainE, retS, appS, augS, drpS, asgT, callV, evsE, tupV, lstV, litE, fldE, okArgs, Ow.ok, Ow.isSh, Ow.flat, sliE, partE, partD, sliD, mm2E, mm2D, rgE, rgD, isiE, forT, isD, idxE, w2]; rfl) ?_
  refine seq_nx (by simp [setS, cat_ok, c5]; rfl) ?_
  refine seq_nx (by simp [setS, cat_ok, frzE_run, ifS, andT, orT, notT, truE, truD, blT, cmpE, cmpD, subE, subS, varE, binE, blE, binD, negE, notE, andE, orE, chainE, retS, appS, augS, drpS, asgT, callV, evsE, tupV, lstV, litE, fldE, okArgs, Ow.ok, Ow.isSh, Ow.flat, sliE, partE, partD, sliD, mm2E, mm2D, rgE, rgD, isiE, forT, isD, idxE, ru1, w3]; rfl) ?_
  have c6' : ∀ env : DEnv, (varB 5) env = .ok (.lst .sh, .lst (told.map eN)) → binE .Add (sliE (varB 5) (some (litE (.int 1))) none) (sliE (varB 5) none (some (litE (.int 1)))) env = .ok (.lst .sh, .lst (moved.map eN)) := fun env he => by
    simp only [binE, sliE, partE, partD, sliD, he, R.bind_ok, litE, Ow.flat, Ow.isSh, if_true]
    exact c6
  refine seq_nx (by simp only [demS_eq, dem_nil, setS]; rw [c6' _ (by simp)]; simp [cat_ok]; rfl) ?_
  refine seq_nx (by simp [setS, cat_ok, frzE_run, ifS, andT, orT, notT, truE, truD, blT, cmpE, cmpD, subE, subS, varE, binE, blE, binD, negE, notE, andE, orE, chainE, retS, appS, augS, drpS, asgT, callV, evsE, tupV, lstV, litE, fldE, okArgs, Ow.ok, Ow.isSh, Ow.flat, sliE, partE, partD, sliD, mm2E, mm2D, rgE, rgD, isiE, forT, isD, idxE, ru2, w4]; rfl) ?_
  exact seq_rt (by simp [setS, cat_ok, frzE_run, ifS, andT, orT, notT, truE, truD, blT, cmpE, cmpD, subE, subS, varE, binE, blE, binD, negE, notE, andE, orE, chainE, retS, appS, augS, drpS, asgT, callV, evsE, tupV, lstV, litE, fldE, okArgs, Ow.ok, Ow.isSh, Ow.flat, sliE, partE, partD, sliD, mm2E, mm2D, rgE, rgD, isiE, forT, isD, idxE, w1])
theorem law_ok (ns : List Int) (hn : ns.length ≤ 63) : semAt tx 12 "law" [.lst (ns.map D.int)] = .ok (.bl true) := (semAt_fn (d := d_law) rfl (e_law _)).trans (run_sh (o := .sh) rfl rfl (imm_bl _) (law_run ns _ rfl))
end K17
end
section
set_option Elab.async false
set_option linter.all false
set_option maxRecDepth 100000
set_option maxHeartbeats 4000000
open PySem PySem.Spec PyProof.Rows L2 PyD
namespace K17
abbrev R0 : PySem.W.OpenRow := PySem.W.OpenLaw.row PySem.Challenge.rw_endswithpapers_k17_middles_of_two_pairs
abbrev fa : List He.Fa := faOf tx hd
abbrev fn : List He.DefD := fnOf tx
def ex : PySem.W.Frag → Bool := fun _ => true
abbrev hk : PySem.W.Hook := hookP 4 fa fn ex
def ob (s : PySem.W.SharedT) : He.AlD × Bool := obsP 4 fa fn ex (HandSHeadRun.getT s)
theorem ob_eq (s : PySem.W.SharedT) : ob s = hk.obs s.abs := obsP_eq (HandSHeadRun.getT_eq s)
theorem run (w : World) : HandSHeadRun.RunEq R0 (PySem.W.view R0.prog [37]) hk ob 100000 ["Book", "liking_of", "is_liking", "on_top", "is_middle", "middles", "Fault", "BadSize", "BadWorld", "BadTold", "PEOPLE", "OUTCOMES", "WORLDS", "PAIRS", "is_set", "is_world", "check_told", "Rule", "_law_row", "_law_same", "_law_dense", "_law_over", "_law_world", "_law_pairs", "_law_told", "_law_below", "_law_stays", "_law_middles", "_law_reaches", "_law_asked", "_law_right_sets"] w := by
  intro os
  kernel_rfl
theorem bd_liking_of : BindF d_liking_of := ⟨fun _ qual kV doc pm an cdv ct us hl => (match us, hl with | [_], _ => rfl), fun h => absurd rfl h⟩
theorem sc_liking_of : FnScope (d_liking_of).N (d_liking_of).ps (L2.defScope (d_liking_of).st) := ⟨rfl, rfl, rfl, by decide +kernel, rfl, by decide +kernel, by decide +kernel⟩
theorem bd_is_liking : BindF d_is_liking := ⟨fun _ qual kV doc pm an cdv ct us hl => (match us, hl with | [_, _], _ => rfl), fun h => absurd rfl h⟩
theorem sc_is_liking : FnScope (d_is_liking).N (d_is_liking).ps (L2.defScope (d_is_liking).st) := ⟨rfl, rfl, rfl, by decide +kernel, rfl, by decide +kernel, by decide +kernel⟩
theorem bd_on_top : BindF d_on_top := ⟨fun _ qual kV doc pm an cdv ct us hl => (match us, hl with | [_, _, _], _ => rfl), fun h => absurd rfl h⟩
theorem sc_on_top : FnScope (d_on_top).N (d_on_top).ps (L2.defScope (d_on_top).st) := ⟨rfl, rfl, rfl, by decide +kernel, rfl, by decide +kernel, by decide +kernel⟩
theorem bd_is_middle : BindF d_is_middle := ⟨fun _ qual kV doc pm an cdv ct us hl => (match us, hl with | [_, _, _, _], _ => rfl), fun h => absurd rfl h⟩
theorem sc_is_middle : FnScope (d_is_middle).N (d_is_middle).ps (L2.defScope (d_is_middle).st) := ⟨rfl, rfl, rfl, by decide +kernel, rfl, by decide +kernel, by decide +kernel⟩
theorem bd_middles : BindF d_middles := ⟨fun h => (nomatch (show (_ :: _ : List Str) = [] from h)), fun _ => ⟨by decide, fun qual kV doc pm an cdv ct us ws hl hw => (match us, hl, ws, hw with | [_, _], _, [_, _], _ => rfl)⟩⟩
theorem sc_middles : FnScope (d_middles).N (d_middles).ps (L2.defScope (d_middles).st) := ⟨rfl, rfl, rfl, by decide +kernel, rfl, by decide +kernel, by decide +kernel⟩
theorem bd_is_set : BindF d_is_set := ⟨fun _ qual kV doc pm an cdv ct us hl => (match us, hl with | [_, _], _ => rfl), fun h => absurd rfl h⟩
theorem sc_is_set : FnScope (d_is_set).N (d_is_set).ps (L2.defScope (d_is_set).st) := ⟨rfl, rfl, rfl, by decide +kernel, rfl, by decide +kernel, by decide +kernel⟩
theorem bd_is_world : BindF d_is_world := ⟨fun _ qual kV doc pm an cdv ct us hl => (match us, hl with | [_, _, _], _ => rfl), fun h => absurd rfl h⟩
theorem sc_is_world : FnScope (d_is_world).N (d_is_world).ps (L2.defScope (d_is_world).st) := ⟨rfl, rfl, rfl, by decide +kernel, rfl, by decide +kernel, by decide +kernel⟩
theorem bd_check_told : BindF d_check_told := ⟨fun _ qual kV doc pm an cdv ct us hl => (match us, hl with | [_, _, _], _ => rfl), fun h => absurd rfl h⟩
theorem sc_check_told : FnScope (d_check_told).N (d_check_told).ps (L2.defScope (d_check_told).st) := ⟨rfl, rfl, rfl, by decide +kernel, rfl, by decide +kernel, by decide +kernel⟩
theorem bd_law_row : BindF d_law_row := ⟨fun _ qual kV doc pm an cdv ct us hl => (match us, hl with | [_, _, _, _], _ => rfl), fun h => absurd rfl h⟩
theorem sc_law_row : FnScope (d_law_row).N (d_law_row).ps (L2.defScope (d_law_row).st) := ⟨rfl, rfl, rfl, by decide +kernel, rfl, by decide +kernel, by decide +kernel⟩
theorem bd_law_same : BindF d_law_same := ⟨fun _ qual kV doc pm an cdv ct us hl => (match us, hl with | [_, _], _ => rfl), fun h => absurd rfl h⟩
theorem sc_law_same : FnScope (d_law_same).N (d_law_same).ps (L2.defScope (d_law_same).st) := ⟨rfl, rfl, rfl, by decide +kernel, rfl, by decide +kernel, by decide +kernel⟩
theorem bd_law_dense : BindF d_law_dense := ⟨fun _ qual kV doc pm an cdv ct us hl => (match us, hl with | [_], _ => rfl), fun h => absurd rfl h⟩
theorem sc_law_dense : FnScope (d_law_dense).N (d_law_dense).ps (L2.defScope (d_law_dense).st) := ⟨rfl, rfl, rfl, by decide +kernel, rfl, by decide +kernel, by decide +kernel⟩
theorem bd_law_over : BindF d_law_over := ⟨fun _ qual kV doc pm an cdv ct us hl => (match us, hl with | [_, _, _], _ => rfl), fun h => absurd rfl h⟩
theorem sc_law_over : FnScope (d_law_over).N (d_law_over).ps (L2.defScope (d_law_over).st) := ⟨rfl, rfl, rfl, by decide +kernel, rfl, by decide +kernel, by decide +kernel⟩
theorem bd_law_world : BindF d_law_world := ⟨fun _ qual kV doc pm an cdv ct us hl => (match us, hl with | [_, _, _, _], _ => rfl), fun h => absurd rfl h⟩
theorem sc_law_world : FnScope (d_law_world).N (d_law_world).ps (L2.defScope (d_law_world).st) := ⟨rfl, rfl, rfl, by decide +kernel, rfl, by decide +kernel, by decide +kernel⟩
theorem bd_law_pairs : BindF d_law_pairs := ⟨fun _ qual kV doc pm an cdv ct us hl => (match us, hl with | [_], _ => rfl), fun h => absurd rfl h⟩
theorem sc_law_pairs : FnScope (d_law_pairs).N (d_law_pairs).ps (L2.defScope (d_law_pairs).st) := ⟨rfl, rfl, rfl, by decide +kernel, rfl, by decide +kernel, by decide +kernel⟩
theorem bd_law_told : BindF d_law_told := ⟨fun _ qual kV doc pm an cdv ct us hl => (match us, hl with | [_, _, _, _, _], _ => rfl), fun h => absurd rfl h⟩
theorem sc_law_told : FnScope (d_law_told).N (d_law_told).ps (L2.defScope (d_law_told).st) := ⟨rfl, rfl, rfl, by decide +kernel, rfl, by decide +kernel, by decide +kernel⟩
theorem bd_law_below : BindF d_law_below := ⟨fun _ qual kV doc pm an cdv ct us hl => (match us, hl with | [_, _, _, _], _ => rfl), fun h => absurd rfl h⟩
theorem sc_law_below : FnScope (d_law_below).N (d_law_below).ps (L2.defScope (d_law_below).st) := ⟨rfl, rfl, rfl, by decide +kernel, rfl, by decide +kernel, by decide +kernel⟩
theorem bd_law_stays : BindF d_law_stays := ⟨fun _ qual kV doc pm an cdv ct us hl => (match us, hl with | [_, _, _], _ => rfl), fun h => absurd rfl h⟩
theorem sc_law_stays : FnScope (d_law_stays).N (d_law_stays).ps (L2.defScope (d_law_stays).st) := ⟨rfl, rfl, rfl, by decide +kernel, rfl, by decide +kernel, by decide +kernel⟩
theorem bd_law_middles : BindF d_law_middles := ⟨fun _ qual kV doc pm an cdv ct us hl => (match us, hl with | [_, _, _, _], _ => rfl), fun h => absurd rfl h⟩
theorem sc_law_middles : FnScope (d_law_middles).N (d_law_middles).ps (L2.defScope (d_law_middles).st) := ⟨rfl, rfl, rfl, by decide +kernel, rfl, by decide +kernel, by decide +kernel⟩
theorem bd_law_reaches : BindF d_law_reaches := ⟨fun _ qual kV doc pm an cdv ct us hl => (match us, hl with | [_, _, _, _, _], _ => rfl), fun h => absurd rfl h⟩
theorem sc_law_reaches : FnScope (d_law_reaches).N (d_law_reaches).ps (L2.defScope (d_law_reaches).st) := ⟨rfl, rfl, rfl, by decide +kernel, rfl, by decide +kernel, by decide +kernel⟩
theorem bd_law_asked : BindF d_law_asked := ⟨fun _ qual kV doc pm an cdv ct us hl => (match us, hl with | [_, _, _], _ => rfl), fun h => absurd rfl h⟩
theorem sc_law_asked : FnScope (d_law_asked).N (d_law_asked).ps (L2.defScope (d_law_asked).st) := ⟨rfl, rfl, rfl, by decide +kernel, rfl, by decide +kernel, by decide +kernel⟩
theorem bd_law_right_sets : BindF d_law_right_sets := ⟨fun _ qual kV doc pm an cdv ct us hl => (match us, hl with | [_, _, _, _, _, _], _ => rfl), fun h => absurd rfl h⟩
theorem sc_law_right_sets : FnScope (d_law_right_sets).N (d_law_right_sets).ps (L2.defScope (d_law_right_sets).st) := ⟨rfl, rfl, rfl, by decide +kernel, rfl, by decide +kernel, by decide +kernel⟩
theorem bd_law : BindF d_law := ⟨fun _ qual kV doc pm an cdv ct us hl => (match us, hl with | [_], _ => rfl), fun h => absurd rfl h⟩
theorem sc_law : FnScope (d_law).N (d_law).ps (L2.defScope (d_law).st) := ⟨rfl, rfl, rfl, by decide +kernel, rfl, by decide +kernel, by decide +kernel⟩
theorem bc_Book (qual : Str) (kV doc pm : Value) (an : Option Addr) (cdv ct : Value) (us : List Value) (hl : us.length = (C_Book).ps.length) : bindArgs (PySem.W.fnOf "__init__" qual (L2.defArgs (C_Book).st) (L2.defBody (C_Book).st) (L2.defScope (C_Book).st) .none kV doc pm an cdv ct) ⟨us, []⟩ = pure ((C_Book).ps.zip us) := match us, hl with | [_, _, _], _ => rfl
theorem scc_Book : FnScope (C_Book).N (C_Book).ps (L2.defScope (C_Book).st) := ⟨rfl, rfl, rfl, by decide +kernel, rfl, by decide +kernel, by decide +kernel⟩
theorem bc_Rule (qual : Str) (kV doc pm : Value) (an : Option Addr) (cdv ct : Value) (us : List Value) (hl : us.length = (C_Rule).ps.length) : bindArgs (PySem.W.fnOf "__init__" qual (L2.defArgs (C_Rule).st) (L2.defBody (C_Rule).st) (L2.defScope (C_Rule).st) .none kV doc pm an cdv ct) ⟨us, []⟩ = pure ((C_Rule).ps.zip us) := match us, hl with | [_, _, _, _, _], _ => rfl
theorem scc_Rule : FnScope (C_Rule).N (C_Rule).ps (L2.defScope (C_Rule).st) := ⟨rfl, rfl, rfl, by decide +kernel, rfl, by decide +kernel, by decide +kernel⟩
theorem fl_Book : ∃ fs, (C_Book.name, fs) ∈ hd.flds := ⟨["allowed", "reach"], by decide⟩
theorem fl_Rule : ∃ fs, (C_Rule.name, fs) ∈ hd.flds := ⟨["people", "outcomes", "worlds", "told", "pairs"], by decide⟩
theorem facts {P : Program} {w : World} {K : PySem.W.Frag} {mg : Str → Option Value} {h : Heap} (KX : K.In h) (G : h.Ns mainGlobals mg) (c : He.SaysD fa fn K) : Fx P w K mg (kiOf K w hd) tx := by
  refine Fx_of KX G c rfl ?_ ?_ ?_ ?_ ?_ ?_ ?_
  · intro d hd
    simp only [tx, List.mem_cons, List.not_mem_nil, or_false] at hd
    rcases hd with rfl | rfl | rfl | rfl | rfl | rfl | rfl | rfl | rfl | rfl | rfl | rfl | rfl | rfl | rfl | rfl | rfl | rfl | rfl | rfl | rfl | rfl
    · exact bd_liking_of
    · exact bd_is_liking
    · exact bd_on_top
    · exact bd_is_middle
    · exact bd_middles
    · exact bd_is_set
    · exact bd_is_world
    · exact bd_check_told
    · exact bd_law_row
    · exact bd_law_same
    · exact bd_law_dense
    · exact bd_law_over
    · exact bd_law_world
    · exact bd_law_pairs
    · exact bd_law_told
    · exact bd_law_below
    · exact bd_law_stays
    · exact bd_law_middles
    · exact bd_law_reaches
    · exact bd_law_asked
    · exact bd_law_right_sets
    · exact bd_law
  · intro d hd
    simp only [tx, List.mem_cons, List.not_mem_nil, or_false] at hd
    rcases hd with rfl | rfl | rfl | rfl | rfl | rfl | rfl | rfl | rfl | rfl | rfl | rfl | rfl | rfl | rfl | rfl | rfl | rfl | rfl | rfl | rfl | rfl
    · exact sc_liking_of
    · exact sc_is_liking
    · exact sc_on_top
    · exact sc_is_middle
    · exact sc_middles
    · exact sc_is_set
    · exact sc_is_world
    · exact sc_check_told
    · exact sc_law_row
    · exact sc_law_same
    · exact sc_law_dense
    · exact sc_law_over
    · exact sc_law_world
    · exact sc_law_pairs
    · exact sc_law_told
    · exact sc_law_below
    · exact sc_law_stays
    · exact sc_law_middles
    · exact sc_law_reaches
    · exact sc_law_asked
    · exact sc_law_right_sets
    · exact sc_law
  · intro d hd
    simp only [tx, List.mem_cons, List.not_mem_nil, or_false] at hd
    rcases hd with rfl | rfl | rfl | rfl | rfl | rfl | rfl | rfl | rfl | rfl | rfl | rfl | rfl | rfl | rfl | rfl | rfl | rfl | rfl | rfl | rfl | rfl
    · exact rfl
    · exact rfl
    · exact rfl
    · exact rfl
    · exact rfl
    · exact rfl
    · exact rfl
    · exact rfl
    · exact rfl
    · exact rfl
    · exact rfl
    · exact rfl
    · exact rfl
    · exact rfl
    · exact rfl
    · exact rfl
    · exact rfl
    · exact rfl
    · exact rfl
    · exact rfl
    · exact rfl
    · exact rfl
  · intro d hd
    simp only [tx, List.mem_cons, List.not_mem_nil, or_false] at hd
    rcases hd with rfl | rfl
    · exact bc_Book
    · exact bc_Rule
  · intro d hd
    simp only [tx, List.mem_cons, List.not_mem_nil, or_false] at hd
    rcases hd with rfl | rfl
    · exact scc_Book
    · exact scc_Rule
  · intro d hd
    simp only [tx, List.mem_cons, List.not_mem_nil, or_false] at hd
    rcases hd with rfl | rfl
    · exact rfl
    · exact rfl
  · intro d hd
    simp only [tx, List.mem_cons, List.not_mem_nil, or_false] at hd
    rcases hd with rfl | rfl
    · exact fl_Book
    · exact fl_Rule
end K17
open PySem PySem.W PySem.Calls PyProof.Rows
theorem PySem.Challenge.cw_endswithpapers_k17_middles_of_two_pairs_holds : PySem.Challenge.rw_endswithpapers_k17_middles_of_two_pairs.Holds := by
  w_on; o_law
  refine HandSHeadRun.head_any (r := OpenLaw.row PySem.Challenge.rw_endswithpapers_k17_middles_of_two_pairs) (q := view (OpenLaw.row PySem.Challenge.rw_endswithpapers_k17_middles_of_two_pairs).prog [37]) (H := K17.hk) (ob := K17.ob) (M := 100000) (loose := ["Book", "liking_of", "is_liking", "on_top", "is_middle", "middles", "Fault", "BadSize", "BadWorld", "BadTold", "PEOPLE", "OUTCOMES", "WORLDS", "PAIRS", "is_set", "is_world", "check_told", "Rule", "_law_row", "_law_same", "_law_dense", "_law_over", "_law_world", "_law_pairs", "_law_told", "_law_below", "_law_stays", "_law_middles", "_law_reaches", "_law_asked", "_law_right_sets"]) (d := HandSHeadRun.topDef (OpenLaw.row PySem.Challenge.rw_endswithpapers_k17_middles_of_two_pairs).prog 37) (kwd := []) K17.ob_eq
    (by kernel_rfl) (fun s => by kernel_rfl) K17.run (by kernel_rfl) (by kernel_rfl) (by kernel_rfl) (by rfl) (by first | assumption | decide +kernel) (by decide +kernel) ⟨rfl, rfl, rfl, rfl, rfl, by decide +kernel⟩ ?hw ?hc
  case hw => w_witness2
  case hc =>
    refine PyD.walkD (l := PySem.Challenge.rw_endswithpapers_k17_middles_of_two_pairs) (t := K17.tx) (lev := 12) (dl := K17.d_law) rfl (by kernel_rfl) ⟨rfl, by decide, by decide⟩ (by kernel_rfl) (by kernel_rfl) (by kernel_rfl) rfl rfl (fun w mg h Y G => ?_) (fun kV doc pm an cdv ct qual us hl => K17.bd_law.1 rfl qual kV doc pm an cdv ct us hl) (fun ns hn => K17.law_ok ns hn)
    obtain ⟨K, KX, c, _⟩ := Y
    exact ⟨K, PyD.kiOf K w K17.hd, KX, K17.facts KX G c⟩
end
