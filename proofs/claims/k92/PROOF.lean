import PyProof.Rows.All
import Wide.All
import OpenK.AllK
import Wide.FinOn
import HandS.ForMost
import HandS.ExcInit
import HandS.Nested
import HandS.Exc
import HandS.ExcCtx
import HandS.HotCalls
import KE.KExcSuper
import KE.KSuper
import HandS.IterVal
import KE.KOpsOwn
import KE.KOwnIter
import HandS.ExcOwn
import HandS.WordsExc
import HandS.TupAny
import HandS.TupMul
import HandS.Style
import HandS.IsInst
import HandS.Wide
import HandS.Property
import HandS.CallRecv
import HandS.ExcField
import KE.KExcIs
import HandS.SortInts
import HandS.Iter
import PyProof.EnumMake
import KE.GoesMore
import KE.GoesEnum
import HandS.TupSets
import HandS.Deep
import KE.OsSort
import HandS.Conv
import KE.KRevSl
import HandS.Dict
import KE.DataMinMax
import HandS.SortKw
import HandS.ClsMeth
import HandS.Hot
import PySem.Challenge.RW_everystepstands_k92_many_colours_within
import KE.RegKSuper
import KE.RegKIsAll
import KE.RegKTryMore
set_option Elab.async false
set_option linter.all false
set_option maxRecDepth 100000
set_option maxHeartbeats 2000000
namespace Sup
open PySem PySem.Spec PyProof.Rows L2 NdefX

/-! ## a body that says super(): it is walked where its own code stands on top -/
structure PSA (X : Cx) (c : Code) (st : List Stmt) (t : TS) : Prop where
  run : ∀ (pins : List (Addr × Obj)) (s : Shared) (σ : L2.St) (H : Hp) (D : Ends), Inv X pins σ H s → t D σ H →
    _root_.PySem.wpAt (model X.prog X.w) X.A c (execs st X.env) (SP X pins D) X.xe s
section
variable {X : Cx} {c : Code} {st : Stmt} {rest : List Stmt} {t u : TS}
theorem psa_of (h : PSs X rest t) : PSA X c rest t := ⟨fun pins s σ H D I q => _root_.PySem.wpAt_of_wpAny (h.run pins s σ H D I q)⟩
theorem psa_cons (h1 : PS X st t) (h2 : PSA X c rest u) : PSA X c (st :: rest) (tSeq t u) := by
  refine ⟨fun pins s σ H D I q => ?_⟩
  refine ks_wpAt_execs_cons (_root_.PySem.wpAt_of_wpAny (thn (h1.run pins s σ H { D with nx := u D } I q) fun f s1 q1 => ?_))
  cases f with
  | next =>
    obtain ⟨σ', H', I', q'⟩ := q1
    exact h2.run pins s1 σ' H' D I' q'
  | ret v => exact q1
  | brk => exact q1
  | cont => exact q1
end

/-- a def whose body may say super(): F tells its text, fr the captured names (`__class__`), ws what they hold -/
theorem fn_ofA {CX : CXT} {P : Program} {w : World} {K : PySem.W.Frag} {mg : Str → Option Value} {base : Heap} {k : Nat} {f : Addr} {F : NF} {dV kV doc pm ct oc : Value} {an od : Option Addr} {osl : Array (Option Value)} {N ps fr : List Str} {ws : List (Option V)} {sp : Sp}
    (lk : K.lookup f = some ⟨oc, od, .func (PySem.W.fnX F.name F.qual F.params F.body F.scope F.cl dV kV doc pm an (.ref F.c) ct), osl⟩) (hcd : PySem.W.codeIn K (.ref F.c) F.qual = true) (S : NScope N ps fr F.scope)
    (hc : ∀ (s : Shared) (A : Around) (outer : List Env) (H : Hp), Env0 P w K mg base A outer s H → CellsAt F.cl fr ws s.heap H)
    (len : ∀ vs H Q E, sp vs H Q E → vs.length = ps.length)
    (hbody : ∀ (A : Around) (outer : List Env) (s : Shared) (H : Hp) (vs : List V) (Q : VK) (E : XK), Room k (A.deeper (envF F f s.heap.objs.size)) → sp vs H Q E →
      ∃ t, PSA (ncx CX P w K mg base N F f A outer s H E) (.func F.body (envF F f s.heap.objs.size)) F.body t ∧ t { nx := fun _ H' => Q .non H', rt := Q } (startF N vs ws) H) :
    FnOk P w K mg base CX (k + 1) f (PySem.W.fnX F.name F.qual F.params F.body F.scope F.cl dV kV doc pm an (.ref F.c) ct) ps sp := by
  refine ⟨len, fun A outer s H args us vs Q E hr e0 hb r hsp => ?_⟩
  have hl := len _ _ _ _ hsp
  have KX : K.In s.heap := e0.mod.kin.keeps fun b o e => (e0.bs b o e).1
  have lim : s.heap.NoLimit := e0.mod.nolimit.keeps fun b o e => (e0.bs b o e).1
  refine ks_codeAny_call_defAt (body := F.body) (binds := ps.zip us) hr.depth (KX _ _ lk) rfl lim (PySem.W.codeRec_of KX hcd) rfl hb S.nocell (fun y hy => S.par _ (List.of_mem_zip hy).1) (fun h₁ hns kp => ?_) S.co S.gen S.kind
  obtain ⟨t, ht, hq⟩ := hbody A outer s H vs Q E (hr.deeper _) hsp
  have I : Inv (ncx CX P w K mg base N F f A outer s H E) [] (startF N vs ws) H { s with heap := h₁, toks := s.toks + (ps.zip us).length } := inv_startN S hr.hd e0 hl r (hc s A outer H e0) hns kp
  refine _root_.PySem.wpAt_mono (ht.run [] _ (startF N vs ws) H _ I hq) (fun fl s' hs => ?_) fun e s' hs => hs
  have fin : ∀ {σ' : L2.St} {H' : Hp} {v : V} {u : Value}, Inv (ncx CX P w K mg base N F f A outer s H E) [] σ' H' s' → L2.RelV v u → Q v H' → CE outer P w H s Q u s' :=
    fun {σ' H' v u} J rv q => ⟨v, H', J.os, J.bare, J.base, J.hok, rv, q⟩
  cases fl with
  | ret u =>
    obtain ⟨v, σ', H', J, rv, q⟩ := hs
    exact fin J rv q
  | next =>
    obtain ⟨σ', H', J, q⟩ := hs
    exact fin (v := V.non) (u := Value.none) J rfl q
  | brk =>
    obtain ⟨_, _, _, q⟩ := hs
    exact False.elim q
  | cont =>
    obtain ⟨_, _, _, q⟩ := hs
    exact False.elim q

/-- the cell of `__class__` stands in the written part -/
theorem cells_class {P : Program} {w : World} {K : PySem.W.Frag} {mg : Str → Option Value} {base : Heap} {A : Around} {outer : List Env} {s : Shared} {H : Hp} {cc C : Addr} {cl : Value} {cld : Option Addr} {csl : Array (Option Value)}
    (hk : K.lookup cc = some ⟨cl, cld, .cell (some (.ref C)), csl⟩) (e0 : Env0 P w K mg base A outer s H) : CellsAt [(("__class__" : Str), cc)] [("__class__" : Str)] [some (.ref C)] s.heap H := by
  have hb : base.get? cc = some ⟨cl, cld, .cell (some (.ref C)), csl⟩ := e0.mod.kin _ _ hk
  obtain ⟨h1, h2⟩ := e0.bs _ _ hb
  have one : ∀ y c, List.lookup y [(("__class__" : Str), cc)] = some c → y = ("__class__" : Str) ∧ c = cc := fun y c e => by
    simp only [List.lookup_cons, List.lookup_nil] at e
    split at e
    · rename_i q
      exact ⟨by simpa using q, (Option.some.inj e).symm⟩
    · cases e
  refine ⟨rfl, fun y c e => ?_, fun x y c e1 e2 => (one x c e1).1.trans (one y c e2).1.symm, fun i y e => ?_⟩
  · obtain ⟨_, rfl⟩ := one y c e
    exact ⟨h2, _, _, h1, rfl⟩
  · cases i with
    | zero =>
      have e' : y = ("__class__" : Str) := (Option.some.inj e).symm
      subst e'
      refine ⟨cc, by simp [List.lookup_cons], fun v hv => ?_⟩
      have : v = V.ref C := by
        have := Option.some.inj (Option.some.inj hv)
        exact this.symm
      subst this
      exact ⟨.ref C, rfl, _, h1, rfl⟩
    | succ i => simp at e

/-- what the written part says of a def with super(): its function object, its code's record, the cell of `__class__` (the class at D) -/
structure SupAt (P : Program) (K : PySem.W.Frag) (mg : Str → Option Value) (f cda cc D : Addr) (fd : FuncData) (sf : Str) : Prop where
  fn : ∃ oc od osl, K.lookup f = some ⟨oc, od, .func fd, osl⟩
  par : ∃ ar : Arg, (fd.params.posonlyargs ++ fd.params.args).head? = some ar ∧ ar.arg = sf
  code : ∃ ccl cdd vs ccs file tf, K.lookup cda = some ⟨ccl, cdd, .fields vs, ccs⟩ ∧ vs[2]? = some (.str file tf) ∧ ((P.main.file : Str) == file) = true
  top : (P.main.scope.names.lookup ("super" : Str)).isSome = false
  noSup : mg "super" = none
  cls : ∃ cdD, PySem.W.clsIn K D = some cdD
  thr : PySem.W.nsIn K PySem.cStatics "thirdparty.any" = some none

/-- `super()` evaluated in the body: a new super object for the class D and the instance in slot i -/
theorem sup_base {X : Cx} {body : List Stmt} {p0 p1 : Pos} {attr : Str} {whole : Sem Value} {f cda cc D C a : Addr} {fd : FuncData} {sf : Str} {ox : Obj} {i j : Nat} {pins : List (Addr × Obj)} {s : Shared} {σ : L2.St} {H : Hp} {Q : Value → Shared → Prop}
    (T : SupAt X.prog X.K X.mg f cda cc D fd sf) (hfu : X.env.func = some f) (hco : X.env.code = .ref cda)
    (hks : X.env.kindOf "super" = some .globalImplicit) (hkc : X.env.kindOf "__class__" = some .free) (hka : X.env.kindOf sf = some .local) (hat : (attr == ("__class__" : Str)) = false)
    (hNi : X.N[i]? = some sf) (hNj : X.N[j]? = some ("__class__" : Str)) (hself : σ[i]? = some (some (.ref a))) (hcls : σ[j]? = some (some (.ref D)))
    (I : Inv X pins σ H s) (ho : s.heap.get? a = some ox) (hc : ox.cls = .ref C) (hnc : ∀ c, ox.data ≠ .cls c) (hsub : PySem.W.mroIn X.K C (.ref D) = some true)
    (h : ∀ so h', h'.get? so = some { cls := .type "super", dict := none, data := .fields #[.ref D, .ref a, .ref C], slots := #[] } → Inv X pins σ H { s with heap := h' } → (∀ b o, s.heap.get? b = some o → h'.get? b = some o) → Q (.ref so) { s with heap := h' }) :
    _root_.PySem.wpAt (model X.prog X.w) X.A (.func body X.env) (attributeBase (.Call (.Name "super" p0) [] [] p1) attr X.env whole) Q X.xe s := by
  obtain ⟨oc, od, osl, hf⟩ := T.fn
  obtain ⟨ar, hp, har⟩ := T.par
  obtain ⟨ccl, cdd, vs, ccs, file, tf, hcode, hvs, hfile⟩ := T.code
  obtain ⟨cdD, hD⟩ := T.cls
  have KX := I.kIn
  obtain ⟨mb, hb1, hb2⟩ := I.mod.blt
  obtain ⟨m, hn, hl⟩ := I.loc
  obtain ⟨us, rs, ls⟩ := hl i sf _ hNi hself (.inl hka)
  obtain ⟨uc, rc, lc⟩ := hl j "__class__" _ hNj hcls (.inr (.inr hkc))
  obtain rfl : us = Value.ref a := rs
  obtain rfl : uc = Value.ref D := rc
  have hmself : m sf = some (Value.ref a) := by
    rcases ls with ⟨_, e⟩ | ⟨k, _⟩
    · exact e
    · rcases k with k | k <;> (rw [hka] at k; cases k)
  obtain ⟨c, hcell, hiscell⟩ : ∃ c, X.env.cells.lookup ("__class__" : Str) = some c ∧ s.heap.IsCell c (some (.ref D)) := by
    rcases lc with ⟨k, _⟩ | ⟨_, c, e1, e2⟩
    · rw [hkc] at k; cases k
    · exact ⟨c, e1, e2⟩
  obtain ⟨oD, hD1, hD2⟩ : ∃ oD, s.heap.get? D = some oD ∧ oD.data = .cls cdD := by
    unfold PySem.W.clsIn at hD
    split at hD
    · rename_i c d cd' sl hh
      cases hD
      exact ⟨_, KX _ _ hh, rfl⟩
    · cases hD
  refine ks_wpAt_super_base hks hkc hat hfu (KX _ _ hf) rfl hp hco (KX _ _ hcode) rfl hvs hfile T.top ?_
  refine PySem.W.ks_loadName_global I.ok.kind hks (Calls.loadGlobal_builtin (by rw [I.ok.glob]; exact I.mod.glob.keeps I.bk) T.noSup (by rw [I.ok.blt]; exact hb1.keeps I.bk) ((hb2 _ (by decide +kernel)).trans (by decide +kernel : bootBuiltins "super" = some (.type "super"))) ⟨rfl, ?_⟩)
  refine wpAny_loadName_free I.ok.kind hkc hcell hiscell ?_
  rw [har]
  refine wpAny_loadName_local I.ok.kind hka hn hmself ?_
  refine ks_wpAny_isType_cls hD1 hD2 ⟨rfl, ?_⟩
  obtain ⟨hh, g, d, t, os⟩ := s
  refine ks_wpAny_call_super hD1 hD2 ho hc hnc (PySem.W.looks_mroIn KX hsub) (fun h' e k => ?_)
  exact h _ h' e (I.kept (t' := t) k) k

section
variable {X : Cx} {pins : List (Addr × Obj)} {σ : L2.St} {H : Hp} {s : Shared}
/-- an untracked new object is kept as a pin -/
theorem pin_new {h' : Heap} {q : Addr} {o : Obj} (I : Inv X pins σ H s) (t' : Nat) (k : ∀ b u, s.heap.get? b = some u → h'.get? b = some u) (hq : s.heap.objs.size ≤ q) (ho : h'.get? q = some o) (hd : ∀ v, o.data ≠ .cell v) :
    Inv X ((q, o) :: pins) σ H { s with heap := h', toks := t' } := by
  have J : Inv X pins σ H { s with heap := h', toks := t' } := I.kept (t' := t') k
  refine J.pins_of fun p hp => ?_
  rcases List.mem_cons.mp hp with rfl | hp
  · exact ⟨ho, I.hok.fresh hq, fun z => absurd (Nat.lt_of_lt_of_le I.lt hq) (by rw [← z]; exact Nat.lt_irrefl _), I.nofs hq, hd⟩
  · exact J.pin p (List.mem_append_right _ hp)
theorem unpin {p : Addr × Obj} (I : Inv X (p :: pins) σ H s) : Inv X pins σ H s := I.pins_of fun q hq => I.pin q (List.mem_append_right _ (List.mem_cons_of_mem _ hq))
end

/-- super().__init__(..) of an exception over ValueError that is being made: nothing of it is told -/
def tSupE (i j : Nat) (C D : Addr) (ta : TA) (u : TS) : TS := fun E σ H => ∃ a : Addr, σ[j]? = some (some (.ref D)) ∧ σ[i]? = some (some (.ref a)) ∧ H a = some (exo a C none) ∧
  ta σ H fun vs H1 => vs.length ≤ 1000 ∧ H1 a = some (exo a C none) ∧ u E σ H1
/-- what the written part says of the class C (the body's class is D) for super().__init__ to be ValueError.__init__ -/
structure SupE (K : PySem.W.Frag) (C D : Addr) : Prop where
  ox : OexC K C
  sub : PySem.W.mroIn K C (.ref D) = some true
  sup : PySem.W.ks_superIn K C D "__init__" = some (some (.builtin "ValueError.__init__"))
  ve : PySem.W.subIn K (.ref C) (.type "ValueError") = some true
theorem mw_nocell {i : String} {x : Addr} : ∀ v, (PySem.W.kxs_mw i x).data ≠ .cell v := fun v => by
  unfold PySem.W.kxs_mw
  exact fun z => nomatch z
theorem call_mw {X : Cx} {pins : List (Addr × Obj)} {σ : L2.St} {H : Hp} {s : Shared} {u a C D : Addr} {us : List Value} {Q : Value → Shared → Prop} {E : Value → Shared → Prop} (T : SupE X.K C D) (I : Inv X pins σ H s) (hu : s.heap.get? u = some (PySem.W.kxs_mw "ValueError.__init__" a)) (e : H a = some (exo a C none)) (hl : us.length ≤ sizeLine)
    (h : ∀ s', Inv X pins σ H s' → Q .none s') : wpAny (model X.prog X.w) X.A (call (.ref u) us) Q E s := by
  obtain ⟨nm, q, N, bs, bm, sn, sub, ab, col, dd, k0, k1, k2, k3, k5, hC, hbm⟩ := T.ox.cls
  obtain ⟨t1, ho⟩ := exo_at I.hok e
  have KX := I.kIn
  obtain ⟨hp, g, d, t, os⟩ := s
  refine wpAny_call (codeAny_of_tree ?_)
  show wpAny _ X.A.in1 (callAny (.ref u) ⟨us, []⟩) _ _ _
  simp only [callAny]
  refine wpAny_bind (wpAny_load hu ?_)
  simp only [PySem.W.kxs_mw, show (Value.type "method-wrapper" == Value.type "method" || Value.type "method-wrapper" == Value.type "builtin_function_or_method" || Value.type "method-wrapper" == Value.type "method-wrapper") = true by decide, if_true]
  refine PySem.W.KFB.if_so (by decide) ?_
  refine wpAny_bind (PySem.W.check_bound_init F.excBase_ValueError.toExcCallFacts (KX _ _ hC) ho rfl ?_)
  refine wpAny_bind (wpAny_pure (wpAny_pure ?_))
  refine ⟨PySem.plainId_quiet F.excBase_ValueError.init.plain _, codeAny_builtin F.excBase_ValueError.initEntry ?_⟩
  refine PySem.W.exc_init_tree (cls := .ref C) (t0 := t1) (dv := none) (c2 := .none) (c3 := .none) (b4 := .bool false) ho hl fun h' k hx _ => ?_
  have J := I.write (t' := t) (x := a) (e := a) (o := exo a C none) (by rw [e]; exact True.intro) (.inl rfl) k ⟨_, hx⟩ (exo_ok hx)
  have eu : upd H a (exo a C none) = H := by
    funext b
    by_cases hb : b = a
    · rw [hb, upd_same, e]
    · rw [upd_ne hb]
  rw [eu] at J
  exact h _ J
theorem psa_superE {X : Cx} {body : List Stmt} {rest : List Stmt} {p0 p1 p2 p3 p4 : Pos} {f cda cc C D : Addr} {fd : FuncData} {sf : Str} {i j : Nat} {e : Expr} {es : List Expr} {ta : TA} {u : TS} {pl : Sem Bool}
    (T : SupAt X.prog X.K X.mg f cda cc D fd sf) (S : SupE X.K C D) (hfu : X.env.func = some f) (hco : X.env.code = .ref cda)
    (hks : X.env.kindOf "super" = some .globalImplicit) (hkc : X.env.kindOf "__class__" = some .free) (hka : X.env.kindOf sf = some .local)
    (hNi : X.N[i]? = some sf) (hNj : X.N[j]? = some ("__class__" : Str))
    (ha : PA X (e :: es) ta) (hr : PSA X (.func body X.env) rest u)
    (hi : interactive X.env = false := by rfl) (hs : swapsWith (.Call (.Attribute (.Call (.Name "super" p0) [] [] p1) "__init__" p2) (e :: es) [] p3) none p4.line X.env = pure false := by rfl)
    (he : starEach (e :: es) X.env = (false, eval e X.env) :: starEach es X.env := by rfl) (hpl : (backTo p3 (starEach es X.env)).any (·.1) = false := by rfl)
    (hev : eval (.Call (.Attribute (.Call (.Name "super" p0) [] [] p1) "__init__" p2) (e :: es) [] p3) X.env = (do
      let ov ← attributeBase (.Call (.Name "super" p0) [] [] p1) "__init__" X.env (eval (.Call (.Name "super" p0) [] [] p1) X.env)
      standAt p2.atName
      let (f, first) ← holding [ov] (getMethod ov "__init__" pl)
      callWith p3 f first (backTo p3 (starEach (e :: es) X.env)) []) := by rfl) :
    PSA X (.func body X.env) (.Expr (.Call (.Attribute (.Call (.Name "super" p0) [] [] p1) "__init__" p2) (e :: es) [] p3) p4 :: rest)
      (tSupE i j C D ta u) := by
  refine ⟨fun pins s σ H D' I q => ?_⟩
  obtain ⟨a, hcls, hself, ea, q⟩ := q
  obtain ⟨nm, qn, N', bs, bm, sn, sub, ab, col, dd, k0, k1, k2, k3, k5, hCl, hbm⟩ := S.ox.cls
  obtain ⟨t1, ho⟩ := exo_at I.hok ea
  have hcl : PySem.W.clsIn X.K C = some { name := nm, bases := bs, mro := .ref C :: bm, ns := N', qualname := qn, hasDict := true, slotNames := sn, subclasses := sub, abstract := ab, collection := col, hasDel := false } := by unfold PySem.W.clsIn; rw [hCl] <;> rfl
  refine ks_wpAt_execs_cons (ks_wpAt_Expr_any ?_ hi hs)
  refine ks_wpAt_MethodCall (pl := pl) ?_ hev
  refine sup_base T hfu hco hks hkc hka (by decide) hNi hNj hself hcls I ho rfl (fun c => by exact fun z => nomatch z) S.sub fun so h' hso J k => ?_
  have KJ := J.kIn
  have hoJ : h'.get? a = some ({ cls := .ref C, dict := none, data := .fields #[.ref t1, .none, .none, .none, .bool false, .none] } : Obj) := k _ _ ho
  have IA : PySem.W.InstAt h' a { cls := .ref C, dict := none, data := .fields #[.ref t1, .none, .none, .none, .bool false, .none] } C none := ⟨hoJ, rfl, rfl, trivial⟩
  have hf := S.sup
  unfold PySem.W.ks_superIn at hf
  rw [hcl] at hf
  obtain ⟨hh, g, d, t, os⟩ := s
  refine PySem.W.kxs_getMethod PySem.W.kxs_ValueError hso (PySem.W.looks_opaque KJ T.thr) ((PySem.W.looks_clsIn KJ hcl).andThen .now) rfl KJ hf (IA.type.andThen (PySem.W.looks_subIn KJ S.ve)) (PySem.W.ks_ne KJ IA hcl) (by decide) ?_
  have J2 := pin_new (t' := t + 1) J (h' := h'.push (PySem.W.kxs_mw "ValueError.__init__" a)) (q := h'.objs.size) (o := PySem.W.kxs_mw "ValueError.__init__" a) (fun b u e => Heap.get?_push_of_some _ e) (Nat.le_refl _) (Heap.get?_push_at rfl rfl) mw_nocell
  rw [he]
  refine PySem.W.kxs_callWith (i := "ValueError.__init__") (x := a) (by show (false || (backTo p3 (starEach es X.env)).any (·.1)) = false; rw [hpl]; rfl) ?_
  refine Calls.evalArgs_plain ?_
  have hrun := ha.run p3 _ _ σ H _ J2 q
  rw [he] at hrun
  refine thn hrun fun us s1 ⟨vs, H1, I1, r1, hl, ea1, q1⟩ => ?_
  have hu : s1.heap.get? h'.objs.size = some (PySem.W.kxs_mw "ValueError.__init__" a) := (I1.pin (h'.objs.size, PySem.W.kxs_mw "ValueError.__init__" a) (List.mem_append_right _ List.mem_cons_self)).1
  refine ⟨hu, call_mw S (unpin I1) hu ea1 (by
    show ([] ++ us).length ≤ sizeLine
    rw [List.nil_append, ← Paired.length r1, sizeLine_eq]
    omega) fun s' J' => ?_⟩
  exact hr.run pins s' σ H1 D' J' q1

/-! ## the own exceptions: super().__init__('..'); self.f = f; (self.g = g) -/
/-- the body's text -/
def exB1 (txt f : Str) (b : List Stmt) : Prop := ∃ p0 p1 p2 p3 p4 p5 p6 p7 p8 p9 ck, (∀ env : Env, ∃ pl, eval (.Call (.Attribute (.Call (.Name "super" p0) [] [] p1) "__init__" p2) [.Constant (.str txt) ck p5] [] p3) env = (do
      let ov ← attributeBase (.Call (.Name "super" p0) [] [] p1) "__init__" env (eval (.Call (.Name "super" p0) [] [] p1) env)
      standAt p2.atName
      let (f, first) ← holding [ov] (getMethod ov "__init__" pl)
      callWith p3 f first (backTo p3 (starEach [.Constant (.str txt) ck p5] env)) [])) ∧ b = [.Expr (.Call (.Attribute (.Call (.Name "super" p0) [] [] p1) "__init__" p2) [.Constant (.str txt) ck p5] [] p3) p4, .Assign [.Attribute (.Name "self" p6) f p7] (.Name f p8) p9]
def exB2 (txt f g : Str) (b : List Stmt) : Prop := ∃ p0 p1 p2 p3 p4 p5 p6 p7 p8 p9 q6 q7 q8 q9 ck, (∀ env : Env, ∃ pl, eval (.Call (.Attribute (.Call (.Name "super" p0) [] [] p1) "__init__" p2) [.Constant (.str txt) ck p5] [] p3) env = (do
      let ov ← attributeBase (.Call (.Name "super" p0) [] [] p1) "__init__" env (eval (.Call (.Name "super" p0) [] [] p1) env)
      standAt p2.atName
      let (f, first) ← holding [ov] (getMethod ov "__init__" pl)
      callWith p3 f first (backTo p3 (starEach [.Constant (.str txt) ck p5] env)) [])) ∧ b = [.Expr (.Call (.Attribute (.Call (.Name "super" p0) [] [] p1) "__init__" p2) [.Constant (.str txt) ck p5] [] p3) p4, .Assign [.Attribute (.Name "self" p6) f p7] (.Name f p8) p9, .Assign [.Attribute (.Name "self" q6) g q7] (.Name g q8) q9]
/-- the exception C(v): its own dict d, new, holds the field -/
def spEx1 (C : Addr) (f : Str) : Sp := fun vs H Q _ => ∃ (a : Addr) (v : V), vs = [.ref a, v] ∧ H a = some (exo a C none) ∧
  ∀ d, H d = none → d ≠ a → Q .non (upd (upd H d (exd d [(f, v)])) a (exo a C (some d)))
def spEx2 (C : Addr) (f g : Str) : Sp := fun vs H Q _ => ∃ (a : Addr) (v w : V), vs = [.ref a, v, w] ∧ H a = some (exo a C none) ∧
  ∀ d, H d = none → d ≠ a → Q .non (upd (upd (upd H d (exd d [(f, v)])) a (exo a C (some d))) d (exd d [(g, w), (f, v)]))
abbrev scOf (nm : List (Str × NameKind)) : Scope := { kind := .function, names := nm, isGenerator := false, isCoroutine := false, more := [] }
/-- the scope's words -/
def exSc (sc : Scope) : Bool := decide (sc.names.lookup ("super" : Str) = some .globalImplicit) && decide (sc.names.lookup ("__class__" : Str) = some .free) && decide (sc.names.lookup ("self" : Str) = some .local)
section
variable {P : Program} {w : World} {K : PySem.W.Frag} {mg : Str → Option Value} {base : Heap} {CX : CXT} {fI cda cc C : Addr} {ar : Arguments} {bd : List Stmt} {nm : List (Str × NameKind)} {qual txt f g : Str} {dV kV doc pm ct oc : Value} {an od : Option Addr} {osl : Array (Option Value)}
theorem ok_ex1 (lk : K.lookup fI = some ⟨oc, od, .func (PySem.W.fnX "__init__" qual ar bd (scOf nm) [("__class__", cc)] dV kV doc pm an (.ref cda) ct), osl⟩) (hcd : PySem.W.codeIn K (.ref cda) qual = true)
    (S : NScope ["self", f, "__class__"] ["self", f] ["__class__"] (scOf nm)) (hsc : exSc (scOf nm) = true) (hb : exB1 txt f bd)
    (T : SupAt P K mg fI cda cc C (PySem.W.fnX "__init__" qual ar bd (scOf nm) [("__class__", cc)] dV kV doc pm an (.ref cda) ct) "self") (TE : SupE K C C)
    (hcell : ∃ cl cld csl, K.lookup cc = some ⟨cl, cld, .cell (some (.ref C)), csl⟩) (noF : PySem.W.findIn K (.ref C) f = some none)
    (hd1 : (f == ("__debug__" : Str)) = false) (hd2 : (f == ("__classdict__" : Str)) = false) :
    FnOk P w K mg base CX 1 fI (PySem.W.fnX "__init__" qual ar bd (scOf nm) [("__class__", cc)] dV kV doc pm an (.ref cda) ct) ["self", f] (spEx1 C f) := by
  obtain ⟨cl, cld, csl, hcell⟩ := hcell
  obtain ⟨p0, p1, p2, p3, p4, p5, p6, p7, p8, p9, ck, hev, hb⟩ := hb
  unfold exSc at hsc
  simp only [Bool.and_eq_true, decide_eq_true_eq] at hsc
  obtain ⟨⟨h1, h2⟩, h3⟩ := hsc
  have h4 : (scOf nm).names.lookup f = some .local := S.par f (by simp)
  have hne : f ≠ ("__class__" : Str) := fun z => by rw [z, h2] at h4; cases h4
  refine fn_ofA (k := 0) (F := ⟨"__init__", qual, ar, bd, scOf nm, [("__class__", cc)], cda⟩) (ws := [some (.ref C)]) lk hcd S (fun s A outer H e0 => cells_class hcell e0) (fun vs H Q E h => ?_) (fun A outer s H vs Q E hr h => ?_)
  · obtain ⟨a, v, rfl, _⟩ := h
    rfl
  · obtain ⟨a, v, rfl, ea, q⟩ := h
    subst hb
    show ∃ t, PSA _ _ _ t ∧ _
    obtain ⟨pl, hev⟩ := hev (envF ⟨"__init__", qual, ar, _, scOf nm, [("__class__", cc)], cda⟩ fI s.heap.objs.size)
    refine ⟨_, psa_superE (X := ncx CX P w K mg base ["self", f, "__class__"] ⟨"__init__", qual, ar, _, scOf nm, [("__class__", cc)], cda⟩ fI A outer s H E) (i := 0) (j := 2) (C := C) T TE rfl rfl h1 h2 h3 rfl rfl
      (pa_cons pe_str pa_nil) (psa_of (pss_one (ps_ost (pe_var (i := 0) rfl (.inl h3)) (pe_var (i := 1) rfl (.inl h4) hd1 hd2)))) (hev := hev), ?_⟩
    refine ⟨a, rfl, rfl, ea, (by show 1 ≤ 1000; decide), ea, ?_⟩
    exact ⟨_, rfl, _, rfl, a, C, rfl, TE.ox, noF, .inl ⟨ea, fun dx n ne => q dx n ne⟩⟩
theorem ok_ex2 (lk : K.lookup fI = some ⟨oc, od, .func (PySem.W.fnX "__init__" qual ar bd (scOf nm) [("__class__", cc)] dV kV doc pm an (.ref cda) ct), osl⟩) (hcd : PySem.W.codeIn K (.ref cda) qual = true)
    (S : NScope ["self", f, g, "__class__"] ["self", f, g] ["__class__"] (scOf nm)) (hsc : exSc (scOf nm) = true) (hb : exB2 txt f g bd)
    (T : SupAt P K mg fI cda cc C (PySem.W.fnX "__init__" qual ar bd (scOf nm) [("__class__", cc)] dV kV doc pm an (.ref cda) ct) "self") (TE : SupE K C C)
    (hcell : ∃ cl cld csl, K.lookup cc = some ⟨cl, cld, .cell (some (.ref C)), csl⟩) (noF : PySem.W.findIn K (.ref C) f = some none) (noG : PySem.W.findIn K (.ref C) g = some none)
    (hd1 : (f == ("__debug__" : Str)) = false) (hd2 : (f == ("__classdict__" : Str)) = false) (hd3 : (g == ("__debug__" : Str)) = false) (hd4 : (g == ("__classdict__" : Str)) = false) :
    FnOk P w K mg base CX 1 fI (PySem.W.fnX "__init__" qual ar bd (scOf nm) [("__class__", cc)] dV kV doc pm an (.ref cda) ct) ["self", f, g] (spEx2 C f g) := by
  obtain ⟨cl, cld, csl, hcell⟩ := hcell
  obtain ⟨p0, p1, p2, p3, p4, p5, p6, p7, p8, p9, q6, q7, q8, q9, ck, hev, hb⟩ := hb
  unfold exSc at hsc
  simp only [Bool.and_eq_true, decide_eq_true_eq] at hsc
  obtain ⟨⟨h1, h2⟩, h3⟩ := hsc
  have h4 : (scOf nm).names.lookup f = some .local := S.par f (by simp)
  have h5 : (scOf nm).names.lookup g = some .local := S.par g (by simp)
  refine fn_ofA (k := 0) (F := ⟨"__init__", qual, ar, bd, scOf nm, [("__class__", cc)], cda⟩) (ws := [some (.ref C)]) lk hcd S (fun s A outer H e0 => cells_class hcell e0) (fun vs H Q E h => ?_) (fun A outer s H vs Q E hr h => ?_)
  · obtain ⟨a, v, w, rfl, _⟩ := h
    rfl
  · obtain ⟨a, v, z, rfl, ea, q⟩ := h
    subst hb
    show ∃ t, PSA _ _ _ t ∧ _
    obtain ⟨pl, hev⟩ := hev (envF ⟨"__init__", qual, ar, _, scOf nm, [("__class__", cc)], cda⟩ fI s.heap.objs.size)
    refine ⟨_, psa_superE (X := ncx CX P w K mg base ["self", f, g, "__class__"] ⟨"__init__", qual, ar, _, scOf nm, [("__class__", cc)], cda⟩ fI A outer s H E) (i := 0) (j := 3) (C := C) T TE rfl rfl h1 h2 h3 rfl rfl
      (pa_cons pe_str pa_nil) (psa_of (pss_cons (ps_ost (pe_var (i := 0) rfl (.inl h3)) (pe_var (i := 1) rfl (.inl h4) hd1 hd2)) (pss_one (ps_ost (pe_var (i := 0) rfl (.inl h3)) (pe_var (i := 2) rfl (.inl h5) hd3 hd4))))) (hev := hev), ?_⟩
    refine ⟨a, rfl, rfl, ea, (by show 1 ≤ 1000; decide), ea, ?_⟩
    refine ⟨_, rfl, _, rfl, a, C, rfl, TE.ox, noF, .inl ⟨ea, fun dx n ne => ?_⟩⟩
    refine ⟨_, rfl, _, rfl, a, C, rfl, TE.ox, noG, .inr ⟨dx, _, upd_same, (upd_ne ne).trans upd_same, (by show 1 ≤ 900; decide), q dx n ne⟩⟩
end

/-! ### raise C(v), raise C(v, w) -/
/-- what a raise of the class x asks of the written part -/
structure Ex1 (P : Program) (K : PySem.W.Frag) (mg : Str → Option Value) (x f : Str) (C : Addr) : Prop where
  gl : mg x = some (.ref C)
  te : SupE K C C
  init : ∃ fI fd, PySem.W.findIn K (.ref C) "__init__" = some (some (.ref fI)) ∧ PySem.W.typeIn K (.ref fI) = some (.type "function") ∧ L2.Binds K fd ["self", f] [] ∧
    ∀ (w : World) (base : Heap) (CX : CXT), FnOk P w K mg base CX 1 fI fd ["self", f] (spEx1 C f)
structure Ex2 (P : Program) (K : PySem.W.Frag) (mg : Str → Option Value) (x f g : Str) (C : Addr) : Prop where
  gl : mg x = some (.ref C)
  te : SupE K C C
  init : ∃ fI fd, PySem.W.findIn K (.ref C) "__init__" = some (some (.ref fI)) ∧ PySem.W.typeIn K (.ref fI) = some (.type "function") ∧ L2.Binds K fd ["self", f, g] [] ∧
    ∀ (w : World) (base : Heap) (CX : CXT), FnOk P w K mg base CX 1 fI fd ["self", f, g] (spEx2 C f g)
def tMk1 (C : Addr) (f : Str) (ta : TA) : L2.St → Hp → XK → Prop := fun σ H Q => ta σ H fun vs H1 => ∃ v, vs = [v] ∧ ∀ d, H1 d = none → Q (.ref C) (some d) (upd H1 d (.xd [(f, v)]))
def tMk2 (C : Addr) (f g : Str) (ta : TA) : L2.St → Hp → XK → Prop := fun σ H Q => ta σ H fun vs H1 => ∃ v w, vs = [v, w] ∧ ∀ d, H1 d = none → Q (.ref C) (some d) (upd H1 d (.xd [(g, w), (f, v)]))
theorem end_heap {H G : Hp} {a d : Addr} {fs : List (Str × V)} (na : H a = none) (ne : d ≠ a) (hG : ∀ b, b ≠ a → b ≠ d → G b = H b) : upd (del G a) d (.xd fs) = upd H d (.xd fs) := by
  funext b
  by_cases hb : b = d
  · rw [hb, upd_same, upd_same]
  · rw [upd_ne hb, upd_ne hb]
    by_cases ha : b = a
    · rw [ha, del_same, na]
    · rw [del_ne ha, hG b ha hb]
/-- an own error is made; its context is None -/
theorem pmkN_oex {X : Cx} {x : Str} {C fI : Addr} {k : Nat} {fd : FuncData} {ps : List Str} {sp : Sp} {e : Expr} {es : List Expr} {ta : TA} {p pos : Pos} (S : OexC X.K C) (hI : PySem.W.findIn X.K (.ref C) "__init__" = some (some (.ref fI)))
    (hT : PySem.W.typeIn X.K (.ref fI) = some (.type "function")) (Fi : FnOk X.prog X.w X.K X.mg X.base CX0 k fI fd ps sp) (hr : Room (k + 1) X.A) (hb : L2.Binds X.K fd ps []) (hg : Gl X x) (hm : X.mg x = some (.ref C)) (ha : PA X (e :: es) ta)
    (hdb : (x == ("__debug__" : Str)) = false) (he : starEach (e :: es) X.env = (false, eval e X.env) :: starEach es X.env) (hpl : (backTo pos (starEach es X.env)).any (·.1) = false) :
    L2N.PMk X (.Call (.Name x p) (e :: es) [] pos) (tMkO C sp [] ta) := fun pins s σ H Q I h => by
  obtain ⟨c1, c2, c3, c4, c5, c6, c7, c8, c9, c10, c11, c12, c13, c14, c15, hC, hB⟩ := S.cls
  apply wpAny_Call_Name_kw
  apply ld_glob I hg hm _ hdb
  refine PySem.W.callWith_K (h₀ := X.base) I.ok.mod.kin S.kC ?_ he hpl
  refine thn (ha.run pos pins s σ H _ I h) ?_
  rintro us ⟨h0, g, dr, tk, os⟩ ⟨vs, H1, I1, rv, hz, mk⟩
  refine ⟨I1.kIn, ?_⟩
  show wpAny _ _ (call (.ref C) us) _ _ _
  -- the new object's place
  generalize hn : h0.objs.size + 1 = n
  have big : h0.objs.size ≤ n := by omega
  have free : H1 n = none := I1.hok.fresh big
  have pr := mk n free
  let h1 := (h0.push (PySem.W.kdv_tup us)).push (PySem.HandSPX.excO C h0.objs.size)
  have old : ∀ b o, h0.get? b = some o → h1.get? b = some o := fun b o z => Heap.get?_push_of_some _ (Heap.get?_push_of_some _ z)
  have there : h1.get? n = some (PySem.HandSPX.excO C h0.objs.size) := by
    subst hn
    show ((h0.push (PySem.W.kdv_tup us)).push (PySem.HandSPX.excO C h0.objs.size)).get? (h0.objs.size + 1) = _
    heap_get
  have I2 : Inv X pins σ (upd H1 n (exo n C none)) ⟨h1, g, dr, tk, os⟩ := I1.laid (t' := tk) old big (exo_ok there)
  have r2 : Vals (V.ref n :: (vs ++ [])) (Value.ref n :: (us ++ [])) := .cons rfl (rv.append .nil)
  have len : ((Value.ref n :: us) ++ []).length = ps.length := by
    rw [← Fi.len _ _ _ _ pr]
    exact r2.length.symm
  have few : us.length ≤ sizeLine := by
    have := rv.length
    rw [sizeLine_eq]
    omega
  subst hn
  refine wpAny_call (PySem.HandSPX.call_own F.excBase_ValueError (fun Y => PySem.HandSPX.refsVE_contains Y c5 hB) (I1.kIn _ _ hC) (PySem.W.looks_findIn I1.kIn hI) (fun self => PySem.W.bind_fn I1.kIn self hT) few ?_)
  refine codeAny_mono (Fi.run _ X.stack _ _ _ _ _ _ _ (hr.make C us []) (I2.env0.make C us []) (hb _ _ I2.kIn len) r2 pr) fun r s' done => ?_
  match r, done with
  | .error er, done => exact pass0 pins σ _ _ er s' I2 done
  | .ok .next, done => exact done.elim
  | .ok .brk, done => exact done.elim
  | .ok .cont, done => exact done.elim
  | .ok (.ret u), ⟨v, H2, os2, bare2, un2, hok2, rv2, isN, d, fs, ea, ed, new, last⟩ =>
    subst isN
    obtain ⟨h2, g2, d2, t2, os3⟩ := s'
    obtain ⟨t0, G, J, kG, goneA, atA, na⟩ := mk_end0 (d2 := d2) (t2 := t2) I1 big old un2 hok2 os2 bare2 ea ed new
    exact ⟨rv2, ⟨_, _, _, ⟨G, g2, d2, t2, os3⟩, _, .ref C, some d, rfl, J, kG, goneA, atA, ⟨rfl, rfl, fun ws z => by cases z; rfl⟩, rfl, rfl, na, rfl, bare2, raises_own S.exC S.tyC, last⟩⟩
theorem PMk.imp {X : Cx} {e : Expr} {t u : L2.St → Hp → XK → Prop} (h : L2N.PMk X e t) (q : ∀ σ H Q, u σ H Q → t σ H Q) : L2N.PMk X e u := fun pins s σ H Q I x => h pins s σ H Q I (q σ H Q x)
/-- an argument list's own weakest reading -/
def wpA (X : Cx) (es : List Expr) : TA := fun σ H Q => ∀ (pos : Pos) (pins : List (Addr × Obj)) (s : Shared), Inv X pins σ H s → wpAny (model X.prog X.w) X.A (spliced (backTo pos (starEach es X.env))) (AP X pins σ Q) X.xe s
theorem pa_wp {X : Cx} {es : List Expr} : PA X es (wpA X es) := ⟨fun pos pins s σ H Q I h => h pos pins s I⟩
theorem pmk_1 {X : Cx} {x f : Str} {C : Addr} {e : Expr} {ta : TA} {p pos : Pos} (T : Ex1 X.prog X.K X.mg x f C) (hr : Room 2 X.A) (hg : Gl X x) (ha : PA X [e] ta)
    (hdb : (x == ("__debug__" : Str)) = false := by decide) (he : starEach [e] X.env = (false, eval e X.env) :: starEach [] X.env := by rfl) (hpl : (backTo pos (starEach [] X.env)).any (·.1) = false := by rfl) :
    L2N.PMk X (.Call (.Name x p) [e] [] pos) (tMk1 C f ta) := by
  obtain ⟨fI, fd, iC, tI, b, F⟩ := T.init
  refine PMk.imp (pmkN_oex T.te.ox iC tI (F X.w X.base CX0) hr b hg T.gl (pa_wp (X := X) (es := [e])) hdb he hpl) fun σ H Q h => ?_
  intro pos' pins s I
  refine thn (ha.run pos' pins s σ H _ I h) fun us s1 ⟨vs, H1, I1, r1, v, ev, q⟩ => ⟨vs, H1, I1, r1, ?_⟩
  subst ev
  refine ⟨(by show 1 ≤ 1000; decide), fun a na => ⟨a, v, rfl, upd_same, fun d hd ne => ⟨rfl, d, [(f, v)], upd_same, (upd_ne ne).trans upd_same, (upd_ne ne).symm.trans hd, ?_⟩⟩⟩
  rw [end_heap na ne fun b h1 h2 => by rw [upd_ne h1, upd_ne h2, upd_ne h1]]
  exact q d ((upd_ne ne).symm.trans hd)
theorem pmk_2 {X : Cx} {x f g : Str} {C : Addr} {e e2 : Expr} {ta : TA} {p pos : Pos} (T : Ex2 X.prog X.K X.mg x f g C) (hr : Room 2 X.A) (hg : Gl X x) (ha : PA X [e, e2] ta)
    (hdb : (x == ("__debug__" : Str)) = false := by decide) (he : starEach [e, e2] X.env = (false, eval e X.env) :: starEach [e2] X.env := by rfl) (hpl : (backTo pos (starEach [e2] X.env)).any (·.1) = false := by rfl) :
    L2N.PMk X (.Call (.Name x p) [e, e2] [] pos) (tMk2 C f g ta) := by
  obtain ⟨fI, fd, iC, tI, b, F⟩ := T.init
  refine PMk.imp (pmkN_oex T.te.ox iC tI (F X.w X.base CX0) hr b hg T.gl (pa_wp (X := X) (es := [e, e2])) hdb he hpl) fun σ H Q h => ?_
  intro pos' pins s I
  refine thn (ha.run pos' pins s σ H _ I h) fun us s1 ⟨vs, H1, I1, r1, v, w, ev, q⟩ => ⟨vs, H1, I1, r1, ?_⟩
  subst ev
  refine ⟨(by show 2 ≤ 1000; decide), fun a na => ⟨a, v, w, rfl, upd_same, fun d hd ne => ⟨rfl, d, [(g, w), (f, v)], (upd_ne ne.symm).trans upd_same, upd_same, (upd_ne ne).symm.trans hd, ?_⟩⟩⟩
  rw [end_heap na ne fun b h1 h2 => by rw [upd_ne h2, upd_ne h1, upd_ne h2, upd_ne h1]]
  exact q d ((upd_ne ne).symm.trans hd)
end Sup

namespace Own
open PySem PySem.Spec PyProof.Rows L2

/-! ## operators of own classes -/
/-- x op y, both instances of the class at C: the method's promise -/
def rOwn (C : Addr) (sp : Sp) (E : XK) : R2 := fun x y H Q => ∃ a dx fs b dy gs, x = .ref a ∧ y = .ref b ∧ H a = some (.ins C dx fs) ∧ H b = some (.ins C dy gs) ∧ sp [x, y] H Q E
theorem back_of {Q : Value → Shared → Prop} {v : V} {u : Value} {s : Shared} (r : RelV v u) (h : Q u s) : PySem.W.CmpBack Q u s := by
  cases v <;> first
    | (obtain ⟨t, rfl⟩ := r; exact h)
    | (cases r; exact h)
theorem op_own {X : Cx} {CX : CXT} {C f : Addr} {op : Operator} {k : Nat} {fd : FuncData} {ps : List Str} {sp : Sp} {E : XK} (hc : PySem.W.selfFirst X.K C = true) (hs : PySem.W.findIn X.K (.ref C) (PySem.dunder op.info.2) = some (some (.ref f))) (hf : PySem.W.isFn X.K (.ref f) = true)
    (F : FnOk X.prog X.w X.K X.mg X.base CX k f fd ps sp) (hr : Room k X.A) (hb : L2.Binds X.K fd ps []) (hx : Passes CX X E) : OpR X (binaryOp op) (rOwn C sp E) := by
  intro pins s σ H x y v u Q I rx ry h
  obtain ⟨a, dx, fs, b, dy, gs, rfl, rfl, ea, eb, q⟩ := h
  cases rx
  cases ry
  obtain ⟨mA, Oa, _⟩ := ins_get I.hok ea
  obtain ⟨mB, Ob, _⟩ := ins_get I.hok eb
  obtain ⟨od, Ja, _⟩ := Oa.look
  obtain ⟨od2, Jb, _⟩ := Ob.look
  obtain ⟨m, fr⟩ := I.fr
  refine PySem.W.binop_K fr I.ok.mod.kin Ja Jb.type hc hs hf ?_
  refine thn (run_fn (us := [.ref a, .ref b]) (vs := [.ref a, .ref b]) F hr hb .nil hx I (.cons rfl (.cons rfl .nil)) q) fun r s' ⟨v', H', I', r', q'⟩ => back_of r' ⟨v', H', I', r', q'⟩
/-- x in y, x not in y; y an instance whose class has __contains__, which gives a bool -/
def rOwnIn (C : Addr) (sp : Sp) (E : XK) (neg : Bool) : R2 := fun x y H Q => ∃ b dy gs, y = .ref b ∧ H b = some (.ins C dy gs) ∧ sp [y, x] H (fun v H' => ∃ c, v = .bl c ∧ Q (.bl (if neg then !c else c)) H') E
theorem op_ownIn {X : Cx} {CX : CXT} {C f : Addr} {k : Nat} {fd : FuncData} {ps : List Str} {sp : Sp} {E : XK} (hs : PySem.W.findIn X.K (.ref C) "__contains__" = some (some (.ref f))) (hf : PySem.W.isFn X.K (.ref f) = true)
    (F : FnOk X.prog X.w X.K X.mg X.base CX k f fd ps sp) (hr : Room k X.A) (hb : L2.Binds X.K fd ps []) (hx : Passes CX X E) : OpR X (compareOp .In) (rOwnIn C sp E false) := by
  intro pins s σ H x y v u Q I rx ry h
  obtain ⟨b, dy, gs, rfl, eb, q⟩ := h
  cases ry
  obtain ⟨mB, Ob, _⟩ := ins_get I.hok eb
  obtain ⟨od2, Jb, _⟩ := Ob.look
  obtain ⟨m, fr⟩ := I.fr
  refine PySem.W.in_K fr I.ok.mod.kin Jb hs hf ?_
  refine thn (run_fn (us := [.ref b, v]) (vs := [.ref b, x]) F hr hb .nil hx I (.cons rfl (.cons rx .nil)) q) fun r s' ⟨v', H', I', r', c, ev, q'⟩ => ?_
  subst ev
  cases r'
  exact wpAny_truthy_bool ⟨.bl _, H', I', rfl, q'⟩
theorem op_ownNotIn {X : Cx} {CX : CXT} {C f : Addr} {k : Nat} {fd : FuncData} {ps : List Str} {sp : Sp} {E : XK} (hs : PySem.W.findIn X.K (.ref C) "__contains__" = some (some (.ref f))) (hf : PySem.W.isFn X.K (.ref f) = true)
    (F : FnOk X.prog X.w X.K X.mg X.base CX k f fd ps sp) (hr : Room k X.A) (hb : L2.Binds X.K fd ps []) (hx : Passes CX X E) : OpR X (compareOp .NotIn) (rOwnIn C sp E true) := by
  intro pins s σ H x y v u Q I rx ry h
  obtain ⟨b, dy, gs, rfl, eb, q⟩ := h
  cases ry
  obtain ⟨mB, Ob, _⟩ := ins_get I.hok eb
  obtain ⟨od2, Jb, _⟩ := Ob.look
  obtain ⟨m, fr⟩ := I.fr
  refine PySem.W.notIn_K fr I.ok.mod.kin Jb hs hf ?_
  refine thn (run_fn (us := [.ref b, v]) (vs := [.ref b, x]) F hr hb .nil hx I (.cons rfl (.cons rx .nil)) q) fun r s' ⟨v', H', I', r', c, ev, q'⟩ => ?_
  subst ev
  cases r'
  exact wpAny_truthy_bool ⟨.bl _, H', I', rfl, q'⟩

/-! ## for x in o, o an instance whose __iter__ hands out iter(self.f), f a list -/
/-- one run of a def by its body: the wish may speak of the state at the entry -/
theorem run_body {CX : CXT} {P : Program} {w : World} {K : PySem.W.Frag} {mg : Str → Option Value} {base : Heap} {k : Nat} {f : Addr} {name qual : Str} {params : Arguments} {body : List Stmt} {scope : Scope} {dV kV doc pm cdv ct oc : Value} {an od : Option Addr}
    {osl : Array (Option Value)} {N ps : List Str} (lk : K.lookup f = some ⟨oc, od, .func (PySem.W.fnOf name qual params body scope dV kV doc pm an cdv ct), osl⟩) (hcd : PySem.W.codeIn K cdv qual = true) (S : FnScope N ps scope)
    {A : Around} {outer : List Env} {s : Shared} {H : Hp} {args : Args} {us : List Value} {vs : List V} {Q : VK} {E : XK} {t : TS} (hr : Room (k + 1) A) (e0 : Env0 P w K mg base A outer s H) (hb : BindsTo s (PySem.W.fnOf name qual params body scope dV kV doc pm an cdv ct) args (ps.zip us)) (r : Vals vs us) (hl : vs.length = ps.length)
    (ht : PSs (cxOf CX P w K mg base N qual scope f cdv A outer s H E) body t) (hq : t { nx := fun _ H' => Q .non H', rt := Q } (start N vs) H) :
    codeAny (model P w) A (.call (.ref f) args) (CR CX outer P w H s Q E) s := by
  have KX : K.In s.heap := e0.mod.kin.keeps fun b o e => (e0.bs b o e).1
  have lim : s.heap.NoLimit := e0.mod.nolimit.keeps fun b o e => (e0.bs b o e).1
  have hkind : ∀ y ∈ ps.zip us, scope.names.lookup y.1 = some .local ∨ (scope.names.lookup y.1 = some .cell ∧ ((cellsFrom (s.heap.objs.size + 1) scope.names []).lookup y.1).isSome = true) := fun y hy =>
    (S.par y.1 (List.of_mem_zip hy).1).elim .inl fun q => .inr ⟨q, PySem.W.cellsFrom_some _ _ _ (.inl q)⟩
  refine codeAny_call_function hr.depth (KX _ _ lk) rfl S.co S.gen rfl (PySem.W.codeRec_of KX hcd) (hb _ _ _ _ ?_)
  refine wpAny_newFunctionEnv_cells S.kind hkind fun env he s1 x => ?_
  subst he
  refine ⟨lim.keeps x.toInCall.keep, codeAny_func ?_⟩
  have I : Inv (cxOf CX P w K mg base N qual scope f cdv A outer s H E) [] (start N vs) H s1 := inv_start S hr.hd e0 hl r x
  refine wpAny_mono (ht.run [] s1 (start N vs) H _ I hq) (fun fl s' hs => ?_) fun e s' hs => hs
  cases fl with
  | ret u =>
    obtain ⟨v, σ', H', J, rv, q⟩ := hs
    exact ⟨v, H', J.os, J.bare, J.base, J.hok, rv, q⟩
  | next =>
    obtain ⟨σ', H', J, q⟩ := hs
    exact ⟨V.non, H', J.os, J.bare, J.base, J.hok, rfl, q⟩
  | brk =>
    obtain ⟨_, _, _, z⟩ := hs
    exact False.elim z
  | cont =>
    obtain ⟨_, _, _, z⟩ := hs
    exact False.elim z

/-- what the written part says of the class C's __iter__, at f: its text is «return iter(self.x)» -/
structure IterAt (K : PySem.W.Frag) (mg : Str → Option Value) (C f : Addr) (x : Str) : Prop where
  at_ : PySem.W.findIn K (.ref C) "__iter__" = some (some (.ref f))
  fn : PySem.W.isFn K (.ref f) = true
  cl : Cls K C
  noX : NoAttr K C x
  noI : mg "iter" = none
  txt : ∃ (qual : Str) (params : Arguments) (scope : Scope) (dV kV doc pm cdv ct oc : Value) (an od : Option Addr) (osl : Array (Option Value)) (N : List Str) (p0 p1 p2 p3 p4 : Pos),
    K.lookup f = some ⟨oc, od, .func (PySem.W.fnOf "__iter__" qual params [.Return (some (.Call (.Name "iter" p0) [.Attribute (.Name "self" p1) x p2] [] p3)) p4] scope dV kV doc pm an cdv ct), osl⟩ ∧ PySem.W.codeIn K cdv qual = true ∧
    FnScope N ["self"] scope ∧ N[0]? = some ("self" : Str) ∧ scope.names.lookup ("iter" : Str) = some .globalImplicit ∧ scope.names.lookup ("self" : Str) = some .local ∧
    (∀ us : List Value, us.length = 1 → bindArgs (PySem.W.fnOf "__iter__" qual params [.Return (some (.Call (.Name "iter" p0) [.Attribute (.Name "self" p1) x p2] [] p3)) p4] scope dV kV doc pm an cdv ct) ⟨us, []⟩ = pure ((["self"] : List Str).zip us)) ∧
    (∀ env : Env, starEach [.Attribute (.Name "self" p1) x p2] env = (false, eval (.Attribute (.Name "self" p1) x p2) env) :: starEach [] env) ∧ (∀ env : Env, (backTo p3 (starEach [] env)).any (·.1) = false) ∧
    (∀ env : Env, attributeBase (.Name "self" p1) x env (eval (.Name "self" p1) env) = eval (.Name "self" p1) env)

/-- o walked: the list at the address l that its attribute x holds -/
def iOwn (K : PySem.W.Frag) (C : Addr) (x : Str) (to : TE) : TI := fun σ H R => to σ H fun v H1 => ∃ a dx fs l, v = .ref a ∧ H1 a = some (.ins C dx fs) ∧ fs.lookup x = some (.ref l) ∧ (∃ xs, SqL K H1 l xs) ∧ R (Itl K l) H1
theorem pi_own {X : Cx} {C f : Addr} {x : Str} {o tg : Expr} {to : TE} (T : IterAt X.K X.mg C f x) (hr : Room 2 X.A) (ho : PE X o to) : PI X tg o (iOwn X.K C x to) := by
  refine ⟨fun pins s σ H R I h => ?_⟩
  refine thn (ho.run pins s σ H _ I h) fun v s1 ⟨y, H1, I1, r1, a, dx, fs, l, ey, ea, hl, ⟨xs, hq⟩, q⟩ => ?_
  subst ey
  cases r1
  obtain ⟨mA, Oa, _⟩ := ins_get I1.hok ea
  obtain ⟨od0, Ja, _⟩ := Oa.look
  obtain ⟨m, fr⟩ := I1.fr
  refine PySem.W.owit_iter fr I1.ok.mod.kin Ja T.at_ T.fn ?_
  obtain ⟨qual, params, scope, dV, kV, doc, pm, cdv, ct, oc, an, od, osl, N, p0, p1, p2, p3, p4, lk, hcd, S, hN, hI, hself, hbnd, hst, hpl, hab⟩ := T.txt
  let Q : VK := fun v H' => ∃ it, v = .ref it ∧ H1 it = none ∧ s1.heap.objs.size ≤ it ∧ H' = upd H1 it (ItO l it 0)
  refine wpAny_call (codeAny_mono (run_body (CX := CX0) (N := N) (ps := ["self"]) (us := [.ref a]) (vs := [.ref a]) (Q := Q) (E := E0) lk hcd S hr I1.env0 (.of_eq (hbnd [.ref a] rfl)) (.cons rfl .nil) rfl
    (pss_one (ps_ret (pe_callB ItX.call_iterN hI T.noI (by decide +kernel) (pa_cons (pe_fld (pe_var (i := 0) hN (.inl hself)) (hab _)) pa_nil) (by decide) (by decide) (hst _) (hpl _)))) ?_) fun r s' hq' => ?_)
  · exact ⟨.ref a, rfl, a, C, dx, fs, .ref l, rfl, ea, T.cl, T.noX, hl, l, xs, rfl, hq, fun it hn hz => ⟨it, rfl, hn, hz, rfl⟩⟩
  · cases r with
    | error er => exact hq'.elim
    | ok fl =>
      cases fl with
      | ret u =>
        obtain ⟨v', H', I', rv, it, rfl, hn, hz, rfl⟩ := I1.after hq'
        obtain rfl : u = Value.ref it := rv
        have hx := itO_get I' upd_same
        have hT : s'.TypeIs (.ref it) "list_iterator" := ⟨_, hx, rfl⟩
        have I2 := ItX.inv_drop I' (a := it) (by rw [upd_same]; rfl)
        rw [ItX.dropH_upd hn] at I2
        show wpAny _ _ (specialOf (.ref it) "__next__") _ _ _
        refine wpAny_specialOf (name := Str.ofString "__next__") hT slot_listiter_next.lookup ?_
        refine ⟨it, [it], _, _, H1, rfl, I2, turn_list l it, ⟨_, hx, rfl, rfl⟩, fun b hb => ?_, q⟩
        have e : b = it := by simpa using hb
        subst e
        exact I1.fpOk hz hn
      | next => exact False.elim hq'
      | brk => exact False.elim hq'
      | cont => exact False.elim hq'
end Own

/-! # Data in place of addresses: what a value stands for, told by one tree -/
namespace Y
open PySem L2

inductive D where
  | non | bl (b : Bool) | int (i : Int) | str (x : Str)
  | tup (ds : List D) | lst (ds : List D) | fz (ds : List D)
  | obj (C : Addr) (ns : List Str) (ds : List D)
  | xd (ns : List Str) (ds : List D)
  | dT (ks : List (List Key)) (ds : List D)
  | dK (ks : List Key) (ds : List D)
  | opq (v : V)
  | er (a C p : Addr) (ns : List Str) (ds : List D)
  | slf (p C : Addr) (ns : List Str) (ds : List D)

/-- H grows to H' -/
abbrev Ex (H H' : Hp) : Prop := ∀ a o, H a = some o → H' a = some o
theorem Ex.rd {H H' : Hp} {a : Addr} {u : HO} (e : Ex H H') (h : Rd H a u) : Rd H' a u := h.elim (fun z => .inl (e _ _ z)) fun ⟨o, z⟩ => .inr ⟨o, e _ _ z⟩
theorem Ex.l {K : PySem.W.Frag} {H H' : Hp} {a : Addr} {xs : List V} (e : Ex H H') (h : SqL K H a xs) : SqL K H' a xs := h.elim (fun z => .inl (Ex.rd e z)) .inr
theorem Ex.t {K : PySem.W.Frag} {H H' : Hp} {a : Addr} {xs : List V} (e : Ex H H') (h : SqT K H a xs) : SqT K H' a xs := h.elim (fun z => .inl (Ex.rd e z)) .inr
theorem Ex.tr {H H1 H2 : Hp} (a : Ex H H1) (b : Ex H1 H2) : Ex H H2 := fun c o h => b c o (a c o h)
theorem Ex.new {H : Hp} {p : Addr} {o : HO} (h : H p = none) : Ex H (upd H p o) := fun a u e => (upd_ne (ne_of_none e h)).trans e

section
variable (K : PySem.W.Frag)
mutual
/-- in the heap H the value v stands for d -/
def Rep (H : Hp) : D → V → Prop
  | .non, v => v = .non
  | .bl b, v => v = .bl b
  | .int i, v => v = .int i
  | .str x, v => v = .str x
  | .opq u, v => v = u
  | .er a _ p ns ds, v => ∃ fs, v = .ref a ∧ H p = some (.xd fs) ∧ fs.map (·.1) = ns ∧ Reps H ds (fs.map (·.2))
  | .slf a C ns ds, v => ∃ dx fs, v = .ref a ∧ H a = some (.ins C dx fs) ∧ fs.map (·.1) = ns ∧ Reps H ds (fs.map (·.2))
  | .tup ds, v => ∃ a vs, v = .ref a ∧ H a = some (.tup vs) ∧ Reps H ds vs
  | .lst ds, v => ∃ a vs, v = .ref a ∧ H a = some (.lst vs) ∧ Reps H ds vs
  | .fz ds, v => ∃ a vs, v = .ref a ∧ SqL K H a vs ∧ Reps H ds vs
  | .obj C ns ds, v => ∃ a dx fs, v = .ref a ∧ H a = some (.ins C dx fs) ∧ fs.map (·.1) = ns ∧ Reps H ds (fs.map (·.2))
  | .xd ns ds, v => ∃ a fs, v = .ref a ∧ H a = some (.xd fs) ∧ fs.map (·.1) = ns ∧ Reps H ds (fs.map (·.2))
  | .dT ks ds, v => ∃ a kvs, v = .ref a ∧ H a = some (.dT kvs) ∧ kvs.map (·.1) = ks ∧ Reps H ds (kvs.map (·.2))
  | .dK ks ds, v => ∃ a kvs, v = .ref a ∧ H a = some (.dK kvs) ∧ kvs.map (·.1) = ks ∧ Reps H ds (kvs.map (·.2))
def Reps (H : Hp) : List D → List V → Prop
  | [], vs => vs = []
  | d :: ds, vs => ∃ v us, vs = v :: us ∧ Rep H d v ∧ Reps H ds us
end
/-- the top in Ht, what is within in H -/
def RepB (Ht H : Hp) : D → V → Prop
  | .tup ds, v => ∃ a vs, v = .ref a ∧ Ht a = some (.tup vs) ∧ Reps K H ds vs
  | .lst ds, v => ∃ a vs, v = .ref a ∧ Ht a = some (.lst vs) ∧ Reps K H ds vs
  | .fz ds, v => ∃ a vs, v = .ref a ∧ SqL K Ht a vs ∧ Reps K H ds vs
  | .obj C ns ds, v => ∃ a dx fs, v = .ref a ∧ Ht a = some (.ins C dx fs) ∧ fs.map (·.1) = ns ∧ Reps K H ds (fs.map (·.2))
  | .xd ns ds, v => ∃ a fs, v = .ref a ∧ Ht a = some (.xd fs) ∧ fs.map (·.1) = ns ∧ Reps K H ds (fs.map (·.2))
  | .dT ks ds, v => ∃ a kvs, v = .ref a ∧ Ht a = some (.dT kvs) ∧ kvs.map (·.1) = ks ∧ Reps K H ds (kvs.map (·.2))
  | .dK ks ds, v => ∃ a kvs, v = .ref a ∧ Ht a = some (.dK kvs) ∧ kvs.map (·.1) = ks ∧ Reps K H ds (kvs.map (·.2))
  | .slf a C ns ds, v => ∃ dx fs, v = .ref a ∧ Ht a = some (.ins C dx fs) ∧ fs.map (·.1) = ns ∧ Reps K H ds (fs.map (·.2))
  | d, v => Rep K H d v
/-- an object that may be written, what is within in H -/
def RepH (H : Hp) : D → Addr → HO → Prop
  | .lst ds, _, .lst vs => Reps K H ds vs
  | .obj C ns ds, _, .ins C' _ fs => C = C' ∧ fs.map (·.1) = ns ∧ Reps K H ds (fs.map (·.2))
  | .slf q C ns ds, p, .ins C' _ fs => (C = C' ∧ q = p) ∧ fs.map (·.1) = ns ∧ Reps K H ds (fs.map (·.2))
  | .dT ks ds, _, .dT kvs => kvs.map (·.1) = ks ∧ Reps K H ds (kvs.map (·.2))
  | .dK ks ds, _, .dK kvs => kvs.map (·.1) = ks ∧ Reps K H ds (kvs.map (·.2))
  | _, _, _ => False
end
section
variable {K : PySem.W.Frag} {H H' Ht Ht' : Hp}
mutual
theorem Rep.mono (e : Ex H H') : ∀ {d : D} {v : V}, Rep K H d v → Rep K H' d v
  | .non, _, h => h
  | .bl _, _, h => h
  | .int _, _, h => h
  | .str _, _, h => h
  | .opq _, _, h => h
  | .tup ds, v, ⟨a, vs, h1, h2, h3⟩ => ⟨a, vs, h1, e _ _ h2, Reps.mono e h3⟩
  | .lst ds, v, ⟨a, vs, h1, h2, h3⟩ => ⟨a, vs, h1, e _ _ h2, Reps.mono e h3⟩
  | .fz ds, v, ⟨a, vs, h1, h2, h3⟩ => ⟨a, vs, h1, Ex.l e h2, Reps.mono e h3⟩
  | .obj C ns ds, v, ⟨a, dx, fs, h1, h2, h3, h4⟩ => ⟨a, dx, fs, h1, e _ _ h2, h3, Reps.mono e h4⟩
  | .xd ns ds, v, ⟨a, fs, h1, h2, h3, h4⟩ => ⟨a, fs, h1, e _ _ h2, h3, Reps.mono e h4⟩
  | .dT ks ds, v, ⟨a, kvs, h1, h2, h3, h4⟩ => ⟨a, kvs, h1, e _ _ h2, h3, Reps.mono e h4⟩
  | .dK ks ds, v, ⟨a, kvs, h1, h2, h3, h4⟩ => ⟨a, kvs, h1, e _ _ h2, h3, Reps.mono e h4⟩
  | .er a C p ns ds, v, ⟨fs, h1, h2, h3, h4⟩ => ⟨fs, h1, e _ _ h2, h3, Reps.mono e h4⟩
  | .slf a C ns ds, v, ⟨dx, fs, h1, h2, h3, h4⟩ => ⟨dx, fs, h1, e _ _ h2, h3, Reps.mono e h4⟩
theorem Reps.mono (e : Ex H H') : ∀ {ds : List D} {vs : List V}, Reps K H ds vs → Reps K H' ds vs
  | [], _, h => h
  | d :: ds, _, ⟨v, us, h1, h2, h3⟩ => ⟨v, us, h1, Rep.mono e h2, Reps.mono e h3⟩
end
theorem RepB.mono (et : Ex Ht Ht') (e : Ex H H') : ∀ {d : D} {v : V}, RepB K Ht H d v → RepB K Ht' H' d v
  | .non, _, h => h
  | .bl _, _, h => h
  | .int _, _, h => h
  | .str _, _, h => h
  | .opq _, _, h => h
  | .tup ds, v, ⟨a, vs, h1, h2, h3⟩ => ⟨a, vs, h1, et _ _ h2, Reps.mono e h3⟩
  | .lst ds, v, ⟨a, vs, h1, h2, h3⟩ => ⟨a, vs, h1, et _ _ h2, Reps.mono e h3⟩
  | .fz ds, v, ⟨a, vs, h1, h2, h3⟩ => ⟨a, vs, h1, Ex.l et h2, Reps.mono e h3⟩
  | .obj C ns ds, v, ⟨a, dx, fs, h1, h2, h3, h4⟩ => ⟨a, dx, fs, h1, et _ _ h2, h3, Reps.mono e h4⟩
  | .xd ns ds, v, ⟨a, fs, h1, h2, h3, h4⟩ => ⟨a, fs, h1, et _ _ h2, h3, Reps.mono e h4⟩
  | .dT ks ds, v, ⟨a, kvs, h1, h2, h3, h4⟩ => ⟨a, kvs, h1, et _ _ h2, h3, Reps.mono e h4⟩
  | .dK ks ds, v, ⟨a, kvs, h1, h2, h3, h4⟩ => ⟨a, kvs, h1, et _ _ h2, h3, Reps.mono e h4⟩
  | .er a C p ns ds, v, h => Rep.mono (d := .er a C p ns ds) e h
  | .slf a C ns ds, v, ⟨dx, fs, h1, h2, h3, h4⟩ => ⟨dx, fs, h1, et _ _ h2, h3, Reps.mono e h4⟩
theorem Rep.b (et : Ex H Ht) : ∀ {d : D} {v : V}, Rep K H d v → RepB K Ht H d v
  | .non, _, h => h
  | .bl _, _, h => h
  | .int _, _, h => h
  | .str _, _, h => h
  | .opq _, _, h => h
  | .tup ds, v, ⟨a, vs, h1, h2, h3⟩ => ⟨a, vs, h1, et _ _ h2, h3⟩
  | .lst ds, v, ⟨a, vs, h1, h2, h3⟩ => ⟨a, vs, h1, et _ _ h2, h3⟩
  | .fz ds, v, ⟨a, vs, h1, h2, h3⟩ => ⟨a, vs, h1, Ex.l et h2, h3⟩
  | .obj C ns ds, v, ⟨a, dx, fs, h1, h2, h3, h4⟩ => ⟨a, dx, fs, h1, et _ _ h2, h3, h4⟩
  | .xd ns ds, v, ⟨a, fs, h1, h2, h3, h4⟩ => ⟨a, fs, h1, et _ _ h2, h3, h4⟩
  | .dT ks ds, v, ⟨a, kvs, h1, h2, h3, h4⟩ => ⟨a, kvs, h1, et _ _ h2, h3, h4⟩
  | .dK ks ds, v, ⟨a, kvs, h1, h2, h3, h4⟩ => ⟨a, kvs, h1, et _ _ h2, h3, h4⟩
  | .er _ _ _ _ _, _, h => h
  | .slf a C ns ds, v, ⟨dx, fs, h1, h2, h3, h4⟩ => ⟨dx, fs, h1, et _ _ h2, h3, h4⟩
theorem RepH.mono (e : Ex H H') {d : D} {a : Addr} {o : HO} (h : RepH K H d a o) : RepH K H' d a o := by
  cases d <;> cases o <;> first
    | exact h.elim
    | exact Reps.mono e h
    | exact ⟨h.1, Reps.mono e h.2⟩
    | exact ⟨h.1, h.2.1, Reps.mono e h.2.2⟩
theorem RepH.ntup {a : Addr} {d : D} {o : HO} (h : RepH K H d a o) (vs : List V) : o ≠ .tup vs := fun z => by
  subst z
  cases d <;> exact h.elim
theorem RepH.b {a : Addr} {d : D} {o : HO} (h : RepH K H d a o) (ha : Ht a = some o) : RepB K Ht H d (.ref a) := by
  cases d <;> cases o <;> first
    | exact h.elim
    | exact ⟨a, _, rfl, ha, h⟩
    | (obtain ⟨rfl, h1, h2⟩ := h; exact ⟨a, _, _, rfl, ha, h1, h2⟩)
    | (obtain ⟨⟨rfl, rfl⟩, h1, h2⟩ := h; exact ⟨_, _, rfl, ha, h1, h2⟩)
theorem RepH.rep {a : Addr} {d : D} {o : HO} (h : RepH K H d a o) (ha : H a = some o) : Rep K H d (.ref a) := by
  cases d <;> cases o <;> first
    | exact h.elim
    | exact ⟨a, _, rfl, ha, h⟩
    | (obtain ⟨rfl, h1, h2⟩ := h; exact ⟨a, _, _, rfl, ha, h1, h2⟩)
    | (obtain ⟨⟨rfl, rfl⟩, h1, h2⟩ := h; exact ⟨_, _, rfl, ha, h1, h2⟩)
/-! lists of data -/
theorem Reps.len : ∀ {ds : List D} {vs : List V}, Reps K H ds vs → vs.length = ds.length
  | [], _, h => by rw [h] <;> rfl
  | _ :: _, _, ⟨_, _, h1, _, h3⟩ => by rw [h1, List.length_cons, List.length_cons, Reps.len h3]
theorem Reps.get : ∀ {ds : List D} {vs : List V} {i : Nat} {d : D}, Reps K H ds vs → ds[i]? = some d → ∃ v, vs[i]? = some v ∧ Rep K H d v
  | [], _, _, _, _, e => by simp at e
  | _ :: _, _, 0, _, ⟨v, _, h1, h2, _⟩, e => by
    have e' := Option.some.inj e
    subst e'
    exact ⟨v, by rw [h1] <;> rfl, h2⟩
  | _ :: _, _, i + 1, _, ⟨_, us, h1, _, h3⟩, e => by
    obtain ⟨v, q1, q2⟩ := Reps.get (i := i) h3 e
    exact ⟨v, by rw [h1]; exact q1, q2⟩
theorem Reps.got : ∀ {ds : List D} {vs : List V} {i : Nat} {v : V}, Reps K H ds vs → vs[i]? = some v → ∃ d, ds[i]? = some d ∧ Rep K H d v
  | [], _, _, _, h, e => by rw [h] at e; simp at e
  | d :: _, _, 0, _, ⟨v, _, h1, h2, _⟩, e => by
    rw [h1] at e
    have e' := Option.some.inj e
    subst e'
    exact ⟨d, rfl, h2⟩
  | _ :: ds, _, i + 1, _, ⟨_, us, h1, _, h3⟩, e => by
    rw [h1] at e
    exact Reps.got (i := i) h3 e
theorem Reps.app : ∀ {ds es : List D} {vs us : List V}, Reps K H ds vs → Reps K H es us → Reps K H (ds ++ es) (vs ++ us)
  | [], _, _, _, h, g => by rw [h]; exact g
  | _ :: _, _, _, _, ⟨v, _, h1, h2, h3⟩, g => ⟨v, _, by rw [h1] <;> rfl, h2, Reps.app h3 g⟩
theorem Reps.one {d : D} {v : V} (h : Rep K H d v) : Reps K H [d] [v] := ⟨v, [], rfl, h, rfl⟩
theorem Reps.nil : Reps K H [] [] := rfl
theorem Reps.cons {d : D} {v : V} {ds : List D} {vs : List V} (h : Rep K H d v) (g : Reps K H ds vs) : Reps K H (d :: ds) (v :: vs) := ⟨v, vs, rfl, h, g⟩
theorem Reps.set : ∀ {ds : List D} {vs : List V} {d : D} {v : V} (i : Nat), Reps K H ds vs → Rep K H d v → Reps K H (ds.set i d) (vs.set i v)
  | [], _, _, _, _, h, _ => by rw [h]; exact rfl
  | _ :: _, _, _, v, 0, ⟨_, us, h1, _, h3⟩, g => ⟨v, us, by rw [h1] <;> rfl, g, h3⟩
  | _ :: _, _, _, _, i + 1, ⟨v, us, h1, h2, h3⟩, g => ⟨v, us.set i _, by rw [h1] <;> rfl, h2, Reps.set i h3 g⟩
theorem Reps.take : ∀ {ds : List D} {vs : List V} (n : Nat), Reps K H ds vs → Reps K H (ds.take n) (vs.take n)
  | _, _, 0, _ => rfl
  | [], _, _ + 1, h => by rw [h]; exact rfl
  | _ :: _, _, n + 1, ⟨v, us, h1, h2, h3⟩ => ⟨v, us.take n, by rw [h1] <;> rfl, h2, Reps.take n h3⟩
theorem Reps.drop : ∀ {ds : List D} {vs : List V} (n : Nat), Reps K H ds vs → Reps K H (ds.drop n) (vs.drop n)
  | _, _, 0, h => h
  | [], _, _ + 1, h => by rw [h]; exact rfl
  | _ :: _, _, n + 1, ⟨_, us, h1, _, h3⟩ => by rw [h1]; exact Reps.drop n h3
theorem Reps.rev : ∀ {ds : List D} {vs : List V}, Reps K H ds vs → Reps K H ds.reverse vs.reverse
  | [], _, h => by rw [h]; exact rfl
  | _ :: _, _, ⟨v, us, h1, h2, h3⟩ => by
    rw [h1, List.reverse_cons, List.reverse_cons]
    exact Reps.app (Reps.rev h3) (Reps.one h2)
/-- scalars -/
theorem Reps.ints : ∀ {ns : List Int} {vs : List V}, Reps K H (ns.map .int) vs → vs = ns.map V.int
  | [], _, h => h
  | _ :: _, _, ⟨_, _, h1, h2, h3⟩ => by rw [h1, h2, Reps.ints h3] <;> rfl
theorem Reps.of_ints : ∀ {ns : List Int}, Reps K H (ns.map .int) (ns.map V.int)
  | [] => rfl
  | _ :: _ => ⟨_, _, rfl, rfl, Reps.of_ints⟩
end
end Y

namespace Y
open PySem L2

/-! ## slots: what is known of a name's value, or of a value on the stack of an expression -/
/-- no: nothing; va: frozen data; ow: an object of one's own that may be changed; br: read from outside (its top stands since the entry); bw: read now -/
inductive Sl where
  | no | va (d : D) | ow (d : D) | br (d : D) | bw (d : D)
/-- the heap without the objects that somebody may change (a tuple never changes) -/
def cut (H : Hp) (O : List Addr) : Hp := fun a => match H a with
  | some (.tup vs) => some (.tup vs)
  | u => if a ∈ O then none else u
section
variable {H H' : Hp} {O O' : List Addr} {a p : Addr} {o : HO}
theorem cut_iff : cut H O a = some o ↔ H a = some o ∧ (a ∉ O ∨ ∃ vs, o = .tup vs) := by
  unfold cut
  split
  · rename_i vs q
    rw [q]
    constructor
    · intro h
      cases h
      exact ⟨rfl, .inr ⟨_, rfl⟩⟩
    · exact fun h => h.1
  · rename_i u q
    by_cases m : a ∈ O
    · rw [if_pos m]
      refine ⟨(fun h => nomatch h), fun ⟨h1, h2⟩ => ?_⟩
      rcases h2 with h2 | ⟨vs, rfl⟩
      · exact absurd m h2
      · exact absurd h1 (q vs)
    · rw [if_neg m]
      exact ⟨fun h => ⟨h, .inl m⟩, fun h => h.1⟩
theorem cut_ex : Ex (cut H O) H := fun a o h => (cut_iff.mp h).1
theorem cut_mono (e : Ex H H') : Ex (cut H O) (cut H' O) := fun a o h => cut_iff.mpr ⟨e _ _ (cut_iff.mp h).1, (cut_iff.mp h).2⟩
theorem cut_sub (s : ∀ a ∈ O, a ∈ O') : Ex (cut H O') (cut H O) := fun a o h => cut_iff.mpr ⟨(cut_iff.mp h).1, (cut_iff.mp h).2.imp (fun n z => n (s a z)) id⟩
theorem cut_upd (h : p ∈ O) (h1 : ∀ vs, H p ≠ some (.tup vs)) (h2 : ∀ vs, o ≠ .tup vs) : cut (upd H p o) O = cut H O := by
  funext a
  by_cases e : a = p
  · have l : cut (upd H p o) O a = none := by
      cases q : cut (upd H p o) O a with
      | none => rfl
      | some u =>
        obtain ⟨q1, q2⟩ := cut_iff.mp q
        rw [e, upd_same] at q1
        cases q1
        rcases q2 with q2 | ⟨vs, q2⟩
        · exact absurd (e ▸ h) q2
        · exact absurd q2 (h2 vs)
    have r : cut H O a = none := by
      cases q : cut H O a with
      | none => rfl
      | some u =>
        obtain ⟨q1, q2⟩ := cut_iff.mp q
        rcases q2 with q2 | ⟨vs, rfl⟩
        · exact absurd (e ▸ h) q2
        · exact absurd (e ▸ q1) (h1 vs)
    rw [l, r]
  · unfold cut
    rw [upd_ne e]
theorem cut_out (h : p ∉ O) : cut H O p = H p := by
  unfold cut
  split
  · rename_i q
    exact q.symm
  · exact if_neg h
/-- a new object that one keeps for oneself -/
theorem cut_own (e : Ex H H') (hp : H p = none) : Ex (cut H O) (cut H' (p :: O)) := fun a o h => by
  obtain ⟨h1, h2⟩ := cut_iff.mp h
  refine cut_iff.mpr ⟨e _ _ h1, h2.imp (fun n z => ?_) id⟩
  exact (List.mem_cons.mp z).elim (ne_of_none h1 hp) n
end

section
variable (K : PySem.W.Frag) (H0 : Hp)
def SlOk (O : List Addr) (H : Hp) : Sl → Option V → Prop
  | .no, _ => True
  | .va d, x => ∃ v, x = some v ∧ Rep K (cut H O) d v
  | .ow d, x => ∃ p o, x = some (.ref p) ∧ p ∈ O ∧ H0 p = none ∧ H p = some o ∧ RepH K (cut H O) d p o
  | .br d, x => ∃ v, x = some v ∧ RepB K H0 (cut H O) d v
  | .bw d, x => ∃ v, x = some v ∧ RepB K H (cut H O) d v
structure WfO (Oc O : List Addr) (G : List Sl) (S : List (Option V)) (H : Hp) : Prop where
  sub : ∀ a ∈ Oc, a ∈ O
  new : ∀ a ∈ O, a ∈ Oc ∨ H0 a = none
  old : ∀ a ∈ Oc, H0 a ≠ none
  live : ∀ a ∈ O, H a ≠ none
  ex : Ex H0 H
  len : S.length = G.length
  ok : ∀ (i : Nat) (s : Sl) (x : Option V), G[i]? = some s → S[i]? = some x → SlOk K H0 O H s x
  nd : ∀ (i j : Nat) (p : Addr) (d d' : D), G[i]? = some (.ow d) → S[i]? = some (some (.ref p)) → G[j]? = some (.ow d') → S[j]? = some (some (.ref p)) → i = j
def Wf (Oc : List Addr) (G : List Sl) (S : List (Option V)) (H : Hp) : Prop := ∃ O, WfO K H0 Oc O G S H
end
section
variable {K : PySem.W.Frag} {H0 H H' : Hp} {O Oc : List Addr} {G G' : List Sl} {S S' : List (Option V)} {s : Sl} {x : Option V} {d : D}
theorem SlOk.mono (e : Ex H H') : ∀ {s : Sl} {x : Option V}, SlOk K H0 O H s x → SlOk K H0 O H' s x
  | .no, _, _ => trivial
  | .va _, _, ⟨v, h1, h2⟩ => ⟨v, h1, Rep.mono (cut_mono e) h2⟩
  | .ow _, _, ⟨p, o, h1, h2, h3, h4, h5⟩ => ⟨p, o, h1, h2, h3, e _ _ h4, RepH.mono (cut_mono e) h5⟩
  | .br _, _, ⟨v, h1, h2⟩ => ⟨v, h1, RepB.mono (fun _ _ z => z) (cut_mono e) h2⟩
  | .bw _, _, ⟨v, h1, h2⟩ => ⟨v, h1, RepB.mono e (cut_mono e) h2⟩
/-- .. one new address is kept for oneself -/
theorem SlOk.own {p : Addr} (e : Ex H H') (hp : H p = none) : ∀ {s : Sl} {x : Option V}, SlOk K H0 O H s x → SlOk K H0 (p :: O) H' s x
  | .no, _, _ => trivial
  | .va _, _, ⟨v, h1, h2⟩ => ⟨v, h1, Rep.mono (cut_own e hp) h2⟩
  | .ow _, _, ⟨q, o, h1, h2, h3, h4, h5⟩ => ⟨q, o, h1, List.mem_cons_of_mem _ h2, h3, e _ _ h4, RepH.mono (cut_own e hp) h5⟩
  | .br _, _, ⟨v, h1, h2⟩ => ⟨v, h1, RepB.mono (fun _ _ z => z) (cut_own e hp) h2⟩
  | .bw _, _, ⟨v, h1, h2⟩ => ⟨v, h1, RepB.mono e (cut_own e hp) h2⟩
theorem WfO.grow (W : WfO K H0 Oc O G S H) (e : Ex H H') : WfO K H0 Oc O G S H' :=
  ⟨W.sub, W.new, W.old, fun a h z => (by
    cases q : H a with
    | none => exact W.live a h q
    | some o =>
      rw [e _ _ q] at z
      cases z), Ex.tr W.ex e, W.len, fun i s x h1 h2 => (W.ok i s x h1 h2).mono e, W.nd⟩
theorem Wf.grow (W : Wf K H0 Oc G S H) (e : Ex H H') : Wf K H0 Oc G S H' := let ⟨O, w⟩ := W; ⟨O, w.grow e⟩
theorem Wf.ex (W : Wf K H0 Oc G S H) : Ex H0 H := let ⟨_, w⟩ := W; w.ex
theorem WfO.pop {y : Option V} (W : WfO K H0 Oc O (s :: G) (y :: S) H) : WfO K H0 Oc O G S H :=
  ⟨W.sub, W.new, W.old, W.live, W.ex, by simpa using W.len, fun i s x h1 h2 => W.ok (i + 1) s x h1 h2, fun i j p d d' h1 h2 h3 h4 => Nat.succ.inj (W.nd (i + 1) (j + 1) p d d' h1 h2 h3 h4)⟩
theorem Wf.pop {y : Option V} (W : Wf K H0 Oc (s :: G) (y :: S) H) : Wf K H0 Oc G S H := let ⟨O, w⟩ := W; ⟨O, w.pop⟩
theorem WfO.head {y : Option V} (W : WfO K H0 Oc O (s :: G) (y :: S) H) : SlOk K H0 O H s y := W.ok 0 s y rfl rfl
/-- something that is not one's own comes on top -/
theorem WfO.push {y : Option V} (W : WfO K H0 Oc O G S H) (h : SlOk K H0 O H s y) (hs : ∀ d, s ≠ .ow d) : WfO K H0 Oc O (s :: G) (y :: S) H :=
  ⟨W.sub, W.new, W.old, W.live, W.ex, by simp [W.len], fun i s' x h1 h2 => by
    cases i with
    | zero =>
      have e1 := Option.some.inj h1
      have e2 := Option.some.inj h2
      subst e1
      subst e2
      exact h
    | succ i => exact W.ok i s' x h1 h2, fun i j p d d' h1 h2 h3 h4 => by
    cases i with
    | zero => exact absurd (Option.some.inj h1) (hs d)
    | succ i =>
      cases j with
      | zero => exact absurd (Option.some.inj h3) (hs d')
      | succ j => exact congrArg Nat.succ (W.nd i j p d d' h1 h2 h3 h4)⟩
/-- an own object's address is among O and stands -/
theorem WfO.owner {i : Nat} {p : Addr} (W : WfO K H0 Oc O G S H) (h1 : G[i]? = some (.ow d)) (h2 : S[i]? = some (some (.ref p))) : p ∈ O ∧ H0 p = none ∧ ∃ o, H p = some o ∧ RepH K (cut H O) d p o := by
  obtain ⟨q, o, e, q1, q2, q3, q4⟩ := W.ok i _ _ h1 h2
  cases e
  exact ⟨q1, q2, o, q3, q4⟩
/-- a new object of one's own comes on top -/
theorem WfO.pushOw {p : Addr} {o : HO} (W : WfO K H0 Oc O G S H) (e : Ex H H') (hp : H p = none) (ho : H' p = some o) (h : RepH K (cut H' (p :: O)) d p o) : WfO K H0 Oc (p :: O) (.ow d :: G) (some (.ref p) :: S) H' := by
  have h0 : H0 p = none := by
    cases q : H0 p with
    | none => rfl
    | some u => rw [W.ex _ _ q] at hp; cases hp
  refine ⟨fun a z => List.mem_cons_of_mem _ (W.sub a z), fun a z => ?_, ?_, fun a z => ?_, Ex.tr W.ex e, by simp [W.len], fun i s' x h1 h2 => ?_, ?_⟩
  · rcases List.mem_cons.mp z with rfl | z
    · exact .inr h0
    · exact W.new a z
  · exact W.old
  · rcases List.mem_cons.mp z with rfl | z
    · rw [ho]; exact fun z => nomatch z
    · exact (W.grow e).live a z
  · cases i with
    | zero =>
      have e1 := Option.some.inj h1
      have e2 := Option.some.inj h2
      subst e1
      subst e2
      exact ⟨p, o, rfl, List.mem_cons_self, h0, ho, h⟩
    | succ i => exact (W.ok i s' x h1 h2).own e hp
  · intro i j q d1 d2 h1 h2 h3 h4
    have old : ∀ {i : Nat} {d : D}, G[i]? = some (.ow d) → S[i]? = some (some (.ref p)) → False := fun {i d} a b => by
      obtain ⟨_, _, o, z, _⟩ := W.owner a b
      rw [hp] at z
      cases z
    cases i with
    | zero =>
      have e := V.ref.inj (Option.some.inj (Option.some.inj h2))
      subst e
      cases j with
      | zero => rfl
      | succ j => exact (old h3 h4).elim
    | succ i =>
      cases j with
      | zero =>
        have e := V.ref.inj (Option.some.inj (Option.some.inj h4))
        subst e
        exact (old h1 h2).elim
      | succ j => exact congrArg Nat.succ (W.nd i j q d1 d2 h1 h2 h3 h4)
/-- an own object is given up: nobody changes it any more -/
theorem SlOk.less {p : Addr} (hn : ∀ d, s = .ow d → x ≠ some (.ref p)) (h : SlOk K H0 O H s x) : SlOk K H0 (O.filter (· ≠ p)) H s x := by
  have sub : ∀ a ∈ O.filter (· ≠ p), a ∈ O := fun a z => (List.mem_filter.mp z).1
  cases s with
  | no => trivial
  | va d => obtain ⟨v, h1, h2⟩ := h; exact ⟨v, h1, Rep.mono (cut_sub sub) h2⟩
  | br d => obtain ⟨v, h1, h2⟩ := h; exact ⟨v, h1, RepB.mono (fun _ _ z => z) (cut_sub sub) h2⟩
  | bw d => obtain ⟨v, h1, h2⟩ := h; exact ⟨v, h1, RepB.mono (fun _ _ z => z) (cut_sub sub) h2⟩
  | ow d =>
    obtain ⟨q, o, h1, h2, h3, h4, h5⟩ := h
    refine ⟨q, o, h1, List.mem_filter.mpr ⟨h2, ?_⟩, h3, h4, RepH.mono (cut_sub sub) h5⟩
    have := hn d rfl
    rw [h1] at this
    simpa using fun z : q = p => this (by rw [z])
theorem WfO.freezeS {y : Option V} (W : WfO K H0 Oc O (.ow d :: G) (y :: S) H) : ∃ O', (∀ a ∈ O', a ∈ O) ∧ WfO K H0 Oc O' (.va d :: G) (y :: S) H := by
  obtain ⟨p, o, rfl, h2, h3, h4, h5⟩ := W.head
  have sub : ∀ a ∈ O.filter (· ≠ p), a ∈ O := fun a z => (List.mem_filter.mp z).1
  have npc : p ∉ Oc := fun z => W.old p z h3
  refine ⟨O.filter (· ≠ p), sub, ⟨fun a z => List.mem_filter.mpr ⟨W.sub a z, by simpa using fun q : a = p => npc (q ▸ z)⟩, fun a z => W.new a (sub a z), W.old, fun a z => W.live a (sub a z), W.ex, by simpa using W.len, fun i s' x h1 h2' => ?_, ?_⟩⟩
  · cases i with
    | zero =>
      have e1 := Option.some.inj h1
      have e2 := Option.some.inj h2'
      subst e1
      subst e2
      refine ⟨.ref p, rfl, RepH.rep (RepH.mono (cut_sub sub) h5) ?_⟩
      rw [cut_out (by simp)]
      exact h4
    | succ i =>
      refine SlOk.less (fun d' hs hx => ?_) (W.ok (i + 1) s' x h1 h2')
      subst hs
      exact absurd (W.nd 0 (i + 1) p d d' rfl rfl h1 (hx ▸ h2')) (by omega)
  · intro i j q d1 d2 h1 h2' h3' h4'
    cases i with
    | zero => exact absurd (Option.some.inj h1) (fun z => nomatch z)
    | succ i =>
      cases j with
      | zero => exact absurd (Option.some.inj h3') (fun z => nomatch z)
      | succ j => exact W.nd (i + 1) (j + 1) q d1 d2 h1 h2' h3' h4'
theorem WfO.freeze {y : Option V} (W : WfO K H0 Oc O (.ow d :: G) (y :: S) H) : ∃ O', WfO K H0 Oc O' (.va d :: G) (y :: S) H := let ⟨O', _, w⟩ := W.freezeS; ⟨O', w⟩
end
end Y

namespace Y
open PySem L2

/-! ## weakest readings of the text itself -/
def wpE (X : Cx) (e : Expr) : TE := fun σ H Q => ∀ (pins : List (Addr × Obj)) (s : Shared), Inv X pins σ H s → wpAny (model X.prog X.w) X.A (eval e X.env) (EP X pins σ Q) X.xe s
def wpT (X : Cx) (e : Expr) : TT := fun σ H Q => ∀ (pins : List (Addr × Obj)) (s : Shared), Inv X pins σ H s → wpAny (model X.prog X.w) X.A (isTrue e X.env (eval e X.env)) (TP X pins σ Q) X.xe s
def wpW (X : Cx) (e : Expr) : TT := fun σ H Q => ∀ (whole : Sem Value) (pins : List (Addr × Obj)) (s : Shared), Inv X pins σ H s → wpAny (model X.prog X.w) X.A (isTrue e X.env whole) (TP X pins σ Q) X.xe s
def wpA (X : Cx) (es : List Expr) : TA := fun σ H Q => ∀ (pos : Pos) (pins : List (Addr × Obj)) (s : Shared), Inv X pins σ H s → wpAny (model X.prog X.w) X.A (spliced (backTo pos (starEach es X.env))) (AP X pins σ Q) X.xe s
def wpS (X : Cx) (st : Stmt) : TS := fun D σ H => ∀ (pins : List (Addr × Obj)) (s : Shared), Inv X pins σ H s → wpAny (model X.prog X.w) X.A (exec st X.env) (SP X pins D) X.xe s
def wpSs (X : Cx) (st : List Stmt) : TS := fun D σ H => ∀ (pins : List (Addr × Obj)) (s : Shared), Inv X pins σ H s → wpAny (model X.prog X.w) X.A (execs st X.env) (SP X pins D) X.xe s
section
variable {X : Cx} {e : Expr} {es : List Expr} {st : Stmt} {sts : List Stmt} {σ : L2.St} {H : Hp}
theorem pe_wp : PE X e (wpE X e) := ⟨fun pins s σ H Q I h => h pins s I⟩
theorem pt_wp : PT X e (wpT X e) := ⟨fun pins s σ H Q I h => h pins s I⟩
theorem pw_wp : PW X e (wpW X e) := ⟨fun w pins s σ H Q I h => h w pins s I⟩
theorem pa_wp : PA X es (wpA X es) := ⟨fun pos pins s σ H Q I h => h pos pins s I⟩
theorem ps_wp : PS X st (wpS X st) := ⟨fun pins s σ H D I h => h pins s I⟩
theorem pss_wp : PSs X sts (wpSs X sts) := ⟨fun pins s σ H D I h => h pins s I⟩
theorem wpE.of {t : TE} {Q : VK} (h : PE X e t) (q : t σ H Q) : wpE X e σ H Q := fun pins s I => h.run pins s σ H Q I q
theorem wpT.of {t : TT} {Q : Bool → Hp → Prop} (h : PT X e t) (q : t σ H Q) : wpT X e σ H Q := fun pins s I => h.run pins s σ H Q I q
theorem wpW.of {t : TT} {Q : Bool → Hp → Prop} (h : PW X e t) (q : t σ H Q) : wpW X e σ H Q := fun w pins s I => h.run w pins s σ H Q I q
theorem wpA.of {t : TA} {Q : List V → Hp → Prop} (h : PA X es t) (q : t σ H Q) : wpA X es σ H Q := fun pos pins s I => h.run pos pins s σ H Q I q
theorem wpS.of {t : TS} {D : Ends} (h : PS X st t) (q : t D σ H) : wpS X st D σ H := fun pins s I => h.run pins s σ H D I q
theorem wpSs.of {t : TS} {D : Ends} (h : PSs X sts t) (q : t D σ H) : wpSs X sts D σ H := fun pins s I => h.run pins s σ H D I q
theorem wpE.mono {Q Q' : VK} (h : wpE X e σ H Q) (q : ∀ v H', Q v H' → Q' v H') : wpE X e σ H Q' := fun pins s I => thn (h pins s I) fun u s' ⟨v, H', I', r, z⟩ => ⟨v, H', I', r, q v H' z⟩
end

/-! ## what an expression gives, in terms of data -/
section
variable (X : Cx) (H0 : Hp) (Oc : List Addr) (Γ : List Sl)
def Ev (e : Expr) (s : Sl) : Prop := ∀ (Δ : List Sl) (τ : List (Option V)) (σ : L2.St) (H : Hp) (Q : VK), τ.length = Δ.length → Wf X.K H0 Oc (Δ ++ Γ) (τ ++ σ) H →
  (∀ v H', Wf X.K H0 Oc (s :: (Δ ++ Γ)) (some v :: (τ ++ σ)) H' → Q v H') → wpE X e σ H Q
/-- as a test -/
def Et (e : Expr) (b : Bool) : Prop := ∀ (Δ : List Sl) (τ : List (Option V)) (σ : L2.St) (H : Hp) (Q : Bool → Hp → Prop), τ.length = Δ.length → Wf X.K H0 Oc (Δ ++ Γ) (τ ++ σ) H →
  (∀ H', Wf X.K H0 Oc (Δ ++ Γ) (τ ++ σ) H' → Q b H') → wpT X e σ H Q
def Ew (e : Expr) (b : Bool) : Prop := ∀ (Δ : List Sl) (τ : List (Option V)) (σ : L2.St) (H : Hp) (Q : Bool → Hp → Prop), τ.length = Δ.length → Wf X.K H0 Oc (Δ ++ Γ) (τ ++ σ) H →
  (∀ H', Wf X.K H0 Oc (Δ ++ Γ) (τ ++ σ) H' → Q b H') → wpW X e σ H Q
/-- arguments: their slots, under one common set of changeable objects -/
def ArgsOk (K : PySem.W.Frag) (H0 : Hp) (O : List Addr) (H : Hp) : List Sl → List V → Prop
  | [], vs => vs = []
  | s :: ss, vs => ∃ v us, vs = v :: us ∧ SlOk K H0 O H s (some v) ∧ ArgsOk K H0 O H ss us
def Ea (es : List Expr) (ss : List Sl) : Prop := ∀ (Δ : List Sl) (τ : List (Option V)) (σ : L2.St) (H : Hp) (Q : List V → Hp → Prop), τ.length = Δ.length → Wf X.K H0 Oc (Δ ++ Γ) (τ ++ σ) H →
  (∀ vs O H', WfO X.K H0 Oc O (Δ ++ Γ) (τ ++ σ) H' → ArgsOk X.K H0 O H' ss vs → Q vs H') → wpA X es σ H Q
end
/-- what a slot tells to a reader -/
def Sl.dat : Sl → Option D
  | .no => none
  | .va d => some d
  | .ow d => some d
  | .br d => some d
  | .bw d => some d
section
variable {K : PySem.W.Frag} {H0 H H' : Hp} {O Oc : List Addr} {G : List Sl} {S : List (Option V)} {s : Sl} {d : D} {v : V}
theorem SlOk.b (e : Ex H0 H) (h : SlOk K H0 O H s (some v)) (hd : s.dat = some d) : RepB K H (cut H O) d v := by
  cases s with
  | no => cases hd
  | va d' =>
    cases hd
    obtain ⟨u, h1, h2⟩ := h
    cases h1
    exact Rep.b cut_ex h2
  | ow d' =>
    cases hd
    obtain ⟨p, o, h1, h2, h3, h4, h5⟩ := h
    cases h1
    exact RepH.b h5 h4
  | br d' =>
    cases hd
    obtain ⟨u, h1, h2⟩ := h
    cases h1
    exact RepB.mono e (fun _ _ z => z) h2
  | bw d' =>
    cases hd
    obtain ⟨u, h1, h2⟩ := h
    cases h1
    exact h2
theorem WfO.tobw (W : WfO K H0 Oc O (s :: G) (some v :: S) H) (hd : s.dat = some d) : WfO K H0 Oc O (.bw d :: G) (some v :: S) H :=
  W.pop.push ⟨v, rfl, W.head.b W.ex hd⟩ fun _ z => nomatch z
/-- data that need no heap -/
def flatD : D → Bool
  | .non | .bl _ | .int _ | .str _ | .opq _ => true
  | _ => false
theorem Rep.flat (h : Rep K H d v) (hf : flatD d = true) : Rep K H' d v := by cases d <;> first | exact h | exact absurd hf Bool.false_ne_true
theorem WfO.flat (W : WfO K H0 Oc O G S H) (hf : flatD d = true) (h : Rep K H' d v) : WfO K H0 Oc O (.va d :: G) (some v :: S) H :=
  W.push ⟨v, rfl, h.flat hf⟩ fun _ z => nomatch z
theorem RepB.flat (h : RepB K H H' d v) (hf : flatD d = true) : Rep K H' d v := by cases d <;> first | exact h | exact absurd hf Bool.false_ne_true
/-- a new tuple, frozen -/
theorem WfO.newTup {p : Addr} {ds : List D} {vs : List V} (W : WfO K H0 Oc O G S H) (hp : H p = none) (h : Reps K (cut H O) ds vs) : WfO K H0 Oc O (.va (.tup ds) :: G) (some (.ref p) :: S) (upd H p (.tup vs)) := by
  have np : p ∉ O := fun z => W.live p z hp
  refine (W.grow (Ex.new hp)).push ⟨.ref p, rfl, p, vs, rfl, ?_, Reps.mono (cut_mono (Ex.new hp)) h⟩ fun _ z => nomatch z
  rw [cut_out np]
  exact upd_same
theorem WfO.newLst {p : Addr} {ds : List D} {vs : List V} (W : WfO K H0 Oc O G S H) (hp : H p = none) (h : Reps K (cut H O) ds vs) : WfO K H0 Oc (p :: O) (.ow (.lst ds) :: G) (some (.ref p) :: S) (upd H p (.lst vs)) :=
  W.pushOw (Ex.new hp) hp upd_same (Reps.mono (cut_own (Ex.new hp) hp) h)
end
section
variable {X : Cx} {H0 : Hp} {Oc : List Addr} {Γ : List Sl} {e a b : Expr} {s : Sl} {d : D} {i j : Int} {pos : Pos}
/-- whoever reads needs no more -/
theorem Ev.r (h : Ev X H0 Oc Γ e s) (hd : s.dat = some d := by rfl) : Ev X H0 Oc Γ e (.bw d) := fun Δ τ σ H Q hl W q => h Δ τ σ H Q hl W fun v H' ⟨O, W'⟩ => q v H' ⟨O, W'.tobw hd⟩
theorem Ev.fz (h : Ev X H0 Oc Γ e (.ow d)) : Ev X H0 Oc Γ e (.va d) := fun Δ τ σ H Q hl W q => h Δ τ σ H Q hl W fun v H' ⟨O, W'⟩ => q v H' W'.freeze
theorem Ev.as {d' : D} (h : Ev X H0 Oc Γ e (.va d)) (hd : d = d') : Ev X H0 Oc Γ e (.va d') := hd ▸ h
theorem Ev.aso {d' : D} (h : Ev X H0 Oc Γ e (.ow d)) (hd : d = d') : Ev X H0 Oc Γ e (.ow d') := hd ▸ h
theorem Ev.fl (h : Ev X H0 Oc Γ e (.bw d)) (hf : flatD d = true := by rfl) : Ev X H0 Oc Γ e (.va d) := fun Δ τ σ H Q hl W q => h Δ τ σ H Q hl W fun v H' ⟨O, W'⟩ => by
  obtain ⟨u, h1, h2⟩ := W'.head
  cases h1
  exact q v H' ⟨O, W'.pop.flat hf (h2.flat hf)⟩
theorem Et.as {c c' : Bool} (h : Et X H0 Oc Γ e c) (hd : c = c') : Et X H0 Oc Γ e c' := hd ▸ h
/-! ### constants, names -/
theorem ev_flat {t : TE} {v : V} (h : PE X e t) (ht : ∀ σ H Q, Q v H → t σ H Q) (hf : flatD d = true) (hr : ∀ H, Rep X.K H d v) : Ev X H0 Oc Γ e (.va d) := fun Δ τ σ H Q hl W q =>
  wpE.of h (ht σ H Q (q v H (let ⟨O, W'⟩ := W; ⟨O, W'.flat hf (hr H)⟩)))
theorem ev_int {i : Int} {k pos} : Ev X H0 Oc Γ (.Constant (.int i) k pos) (.va (.int i)) := ev_flat pe_int (fun _ _ _ q => q) rfl fun _ => rfl
theorem ev_bl {c : Bool} {k pos} : Ev X H0 Oc Γ (.Constant (.bool c) k pos) (.va (.bl c)) := ev_flat pe_bl (fun _ _ _ q => q) rfl fun _ => rfl
theorem ev_non {k pos} : Ev X H0 Oc Γ (.Constant .none k pos) (.va .non) := ev_flat pe_non (fun _ _ _ q => q) rfl fun _ => rfl
theorem ev_str {x : Str} {k pos} : Ev X H0 Oc Γ (.Constant (.str x) k pos) (.va (.str x)) := ev_flat pe_str (fun _ _ _ q => q) rfl fun _ => rfl
theorem len_app {Δ : List Sl} {τ : List (Option V)} (hl : τ.length = Δ.length) {n : Nat} {σ : L2.St} {s : Sl} (h : Γ[n]? = some s) : (Δ ++ Γ)[Δ.length + n]? = some s ∧ (τ ++ σ)[Δ.length + n]? = σ[n]? := by
  refine ⟨by rw [List.getElem?_append_right (by omega)]; simpa using h, ?_⟩
  rw [List.getElem?_append_right (by omega)]
  congr 1
  omega
theorem slot_of {Δ : List Sl} {τ : List (Option V)} {σ : L2.St} {H : Hp} {O : List Addr} {n : Nat} (hl : τ.length = Δ.length) (W : WfO X.K H0 Oc O (Δ ++ Γ) (τ ++ σ) H) (h : Γ[n]? = some s) : ∃ x, σ[n]? = some x ∧ SlOk X.K H0 O H s x := by
  obtain ⟨h1, h2⟩ := len_app (σ := σ) hl h
  have hn : Δ.length + n < (τ ++ σ).length := by
    rw [W.len]
    exact (List.getElem?_eq_some_iff.mp h1).1
  obtain ⟨x, hx⟩ : ∃ x, (τ ++ σ)[Δ.length + n]? = some x := ⟨_, List.getElem?_eq_getElem hn⟩
  exact ⟨x, h2 ▸ hx, W.ok _ _ _ h1 hx⟩
/-- how a name's slot is read -/
def Sl.rd : Sl → Sl
  | .ow d => .bw d
  | s => s
theorem ev_var (n : Nat) {x : Str} (h : Γ[n]? = some s) (hs : s ≠ .no) (hN : X.N[n]? = some x) (hv : Vis X.env.scope x) (hd : (x == ("__debug__" : Str)) = false) (hcd : (x == ("__classdict__" : Str)) = false) : Ev X H0 Oc Γ (.Name x pos) s.rd := fun Δ τ σ H Q hl W q => by
  obtain ⟨O, W⟩ := W
  obtain ⟨y, hy, ok⟩ := slot_of hl W h
  cases s with
  | no => exact absurd rfl hs
  | va d =>
    obtain ⟨v, rfl, hv'⟩ := ok
    exact wpE.of (pe_var hN hv hd hcd) ⟨v, hy, q v H ⟨O, W.push ⟨v, rfl, hv'⟩ fun _ z => nomatch z⟩⟩
  | br d =>
    obtain ⟨v, rfl, hv'⟩ := ok
    exact wpE.of (pe_var hN hv hd hcd) ⟨v, hy, q v H ⟨O, W.push ⟨v, rfl, hv'⟩ fun _ z => nomatch z⟩⟩
  | bw d =>
    obtain ⟨v, rfl, hv'⟩ := ok
    exact wpE.of (pe_var hN hv hd hcd) ⟨v, hy, q v H ⟨O, W.push ⟨v, rfl, hv'⟩ fun _ z => nomatch z⟩⟩
  | ow d =>
    obtain ⟨p, o, rfl, h2, h3, h4, h5⟩ := ok
    exact wpE.of (pe_var hN hv hd hcd) ⟨.ref p, hy, q (.ref p) H ⟨O, W.push ⟨.ref p, rfl, RepH.b h5 h4⟩ fun _ z => nomatch z⟩⟩
/-! ### two operands, one operand -/
theorem ev_op2 {r : R2} {s1 s2 : Sl} (hp : ∀ {ta tb : TE}, PE X a ta → PE X b tb → PE X e (tOp r ta tb)) (ha : Ev X H0 Oc Γ a s1) (hb : Ev X H0 Oc Γ b s2)
    (hr : ∀ (G : List Sl) (S : List (Option V)) (H : Hp) (v w : V) (Q : VK), Wf X.K H0 Oc (s2 :: s1 :: G) (some w :: some v :: S) H → (∀ u H', Wf X.K H0 Oc (s :: G) (some u :: S) H' → Q u H') → r v w H Q) : Ev X H0 Oc Γ e s := fun Δ τ σ H Q hl W q => by
  refine wpE.of (hp pe_wp pe_wp) ?_
  refine ha Δ τ σ H _ hl W fun v H1 W1 => ?_
  refine hb (s1 :: Δ) (some v :: τ) σ H1 _ (by simp [hl]) W1 fun w H2 W2 => ?_
  exact hr _ _ H2 v w Q W2 q
theorem bw2 {K : PySem.W.Frag} {O : List Addr} {d1 d2 : D} {G : List Sl} {S : List (Option V)} {H : Hp} {v w : V} (W : WfO K H0 Oc O (.bw d2 :: .bw d1 :: G) (some w :: some v :: S) H) : RepB K H (cut H O) d1 v ∧ RepB K H (cut H O) d2 w ∧ WfO K H0 Oc O G S H := by
  obtain ⟨u, h1, h2⟩ := W.head
  obtain ⟨u', h1', h2'⟩ := W.pop.head
  cases h1
  cases h1'
  exact ⟨h2', h2, W.pop.pop⟩
theorem va2 {K : PySem.W.Frag} {O : List Addr} {d1 d2 : D} {G : List Sl} {S : List (Option V)} {H : Hp} {v w : V} (W : WfO K H0 Oc O (.va d2 :: .va d1 :: G) (some w :: some v :: S) H) : Rep K (cut H O) d1 v ∧ Rep K (cut H O) d2 w ∧ WfO K H0 Oc O G S H := by
  obtain ⟨u, h1, h2⟩ := W.head
  obtain ⟨u', h1', h2'⟩ := W.pop.head
  cases h1
  cases h1'
  exact ⟨h2', h2, W.pop.pop⟩
end
end Y

namespace Y
open PySem L2
section
variable {X : Cx} {H0 : Hp} {Oc : List Addr} {Γ : List Sl} {e a b c : Expr} {es : List Expr} {s s1 s2 : Sl} {d d1 d2 : D} {i j : Int} {pos p2 : Pos}
/-! ### whole numbers -/
theorem ev_ii0 {f : Operator} {g : Int → Int → V} {g' : Int → Int → D} (ho : OpR X (binaryOp f) (rI0 g)) (ha : Ev X H0 Oc Γ a (.va (.int i))) (hb : Ev X H0 Oc Γ b (.va (.int j))) (hf : flatD (g' i j) = true) (hr : ∀ H, Rep X.K H (g' i j) (g i j)) :
    Ev X H0 Oc Γ (.BinOp a f b pos) (.va (g' i j)) := ev_op2 (fun ha hb => pe_op ho ha hb) ha hb fun G S H v w Q ⟨O, W⟩ q => by
  obtain ⟨h1, h2, W'⟩ := va2 W
  exact ⟨i, j, h1, h2, q _ H ⟨O, W'.flat hf (hr H)⟩⟩
theorem ev_ii {f : Operator} {C : Int → Int → Prop} {g : Int → Int → V} {g' : Int → Int → D} (ho : OpR X (binaryOp f) (rI C g)) (ha : Ev X H0 Oc Γ a (.va (.int i))) (hb : Ev X H0 Oc Γ b (.va (.int j))) (hc : C i j) (hf : flatD (g' i j) = true) (hr : ∀ H, Rep X.K H (g' i j) (g i j)) :
    Ev X H0 Oc Γ (.BinOp a f b pos) (.va (g' i j)) := ev_op2 (fun ha hb => pe_op ho ha hb) ha hb fun G S H v w Q ⟨O, W⟩ q => by
  obtain ⟨h1, h2, W'⟩ := va2 W
  exact ⟨i, j, h1, h2, hc, q _ H ⟨O, W'.flat hf (hr H)⟩⟩
theorem ev_add (ha : Ev X H0 Oc Γ a (.va (.int i))) (hb : Ev X H0 Oc Γ b (.va (.int j))) : Ev X H0 Oc Γ (.BinOp a .Add b pos) (.va (.int (i + j))) := ev_ii0 (g' := fun i j => .int (i + j)) op_add ha hb rfl fun _ => rfl
theorem ev_sub (ha : Ev X H0 Oc Γ a (.va (.int i))) (hb : Ev X H0 Oc Γ b (.va (.int j))) : Ev X H0 Oc Γ (.BinOp a .Sub b pos) (.va (.int (i - j))) := ev_ii0 (g' := fun i j => .int (i - j)) op_sub ha hb rfl fun _ => rfl
theorem ev_mul (ha : Ev X H0 Oc Γ a (.va (.int i))) (hb : Ev X H0 Oc Γ b (.va (.int j))) (hc : CMul i j) : Ev X H0 Oc Γ (.BinOp a .Mult b pos) (.va (.int (i * j))) := ev_ii (g' := fun i j => .int (i * j)) op_mul ha hb hc rfl fun _ => rfl
theorem ev_fdiv (ha : Ev X H0 Oc Γ a (.va (.int i))) (hb : Ev X H0 Oc Γ b (.va (.int j))) (hc : CDiv i j) : Ev X H0 Oc Γ (.BinOp a .FloorDiv b pos) (.va (.int (i / j))) := ev_ii (g' := fun i j => .int (i / j)) op_fdiv ha hb hc rfl fun _ => rfl
theorem ev_mod (ha : Ev X H0 Oc Γ a (.va (.int i))) (hb : Ev X H0 Oc Γ b (.va (.int j))) (hc : 0 < j) : Ev X H0 Oc Γ (.BinOp a .Mod b pos) (.va (.int (i % j))) := ev_ii (g' := fun i j => .int (i % j)) op_mod ha hb hc rfl fun _ => rfl
theorem ev_pow (ha : Ev X H0 Oc Γ a (.va (.int i))) (hb : Ev X H0 Oc Γ b (.va (.int j))) (hc : CPow i j) : Ev X H0 Oc Γ (.BinOp a .Pow b pos) (.va (.int (i ^ j.toNat))) := ev_ii (g' := fun i j => .int (i ^ j.toNat)) op_pow ha hb hc rfl fun _ => rfl
theorem ev_op1 {r : V → Hp → VK → Prop} (hp : ∀ {ta : TE}, PE X a ta → PE X e (tUn r ta)) (ha : Ev X H0 Oc Γ a s1)
    (hr : ∀ (G : List Sl) (S : List (Option V)) (H : Hp) (v : V) (Q : VK), Wf X.K H0 Oc (s1 :: G) (some v :: S) H → (∀ u H', Wf X.K H0 Oc (s :: G) (some u :: S) H' → Q u H') → r v H Q) : Ev X H0 Oc Γ e s := fun Δ τ σ H Q hl W q =>
  wpE.of (hp pe_wp) (ha Δ τ σ H _ hl W fun v H1 W1 => hr _ _ H1 v Q W1 q)
theorem ev_neg (ha : Ev X H0 Oc Γ a (.va (.int i))) : Ev X H0 Oc Γ (.UnaryOp .USub a pos) (.va (.int (-i))) := ev_op1 (fun h => pe_un un_neg h) ha fun G S H v Q ⟨O, W⟩ q => by
  obtain ⟨u, h1, h2⟩ := W.head
  cases h1
  exact ⟨i, h2, q _ H ⟨O, W.pop.flat rfl (show Rep X.K H (.int (-i)) (.int (-i)) from rfl)⟩⟩
/-! ### comparisons -/
/-- a comparison, by the slots of its two sides -/
def C2 (X : Cx) (H0 : Hp) (Oc : List Addr) (f : CmpOp) (s1 s2 : Sl) (k : Bool) : Prop := ∃ r : R2, OpR X (compareOp f) r ∧
  ∀ (G : List Sl) (S : List (Option V)) (H : Hp) (v w : V) (Q : VK), Wf X.K H0 Oc (s2 :: s1 :: G) (some w :: some v :: S) H → (∀ H', Wf X.K H0 Oc G S H' → Q (.bl k) H') → r v w H Q
theorem ev_c {f : CmpOp} {k : Bool} (hc : C2 X H0 Oc f s1 s2 k) (ha : Ev X H0 Oc Γ a s1) (hb : Ev X H0 Oc Γ b s2) (hm : behindInMarks f b = false := by first | exact nomark _ | rfl) : Ev X H0 Oc Γ (.Compare a [f] [b] pos) (.va (.bl k)) := by
  obtain ⟨r, ho, hr⟩ := hc
  exact ev_op2 (fun ha hb => pe_cmpR ho ha hb hm) ha hb fun G S H v w Q W q => hr G S H v w Q W fun H' ⟨O, W'⟩ => q _ H' ⟨O, W'.flat rfl (show Rep X.K H' (.bl k) (.bl k) from rfl)⟩
theorem et_c {f : CmpOp} {k : Bool} (hc : C2 X H0 Oc f s1 s2 k) (ha : Ev X H0 Oc Γ a s1) (hb : Ev X H0 Oc Γ b s2) (hm : behindInMarks f b = false := by first | exact nomark _ | rfl) : Et X H0 Oc Γ (.Compare a [f] [b] pos) k := by
  obtain ⟨r, ho, hr⟩ := hc
  intro Δ τ σ H Q hl W q
  refine wpT.of (pt_cmpR ho pe_wp pe_wp hm) ?_
  refine ha Δ τ σ H _ hl W fun v H1 W1 => ?_
  refine hb (s1 :: Δ) (some v :: τ) σ H1 _ (by simp [hl]) W1 fun w H2 W2 => ?_
  exact hr _ _ H2 v w _ W2 fun H' W' => ⟨k, rfl, q H' W'⟩
theorem cm_ii {f : CmpOp} {p : Int → Int → Bool} (ho : OpR X (compareOp f) (rI0 fun i j => .bl (p i j))) : C2 X H0 Oc f (.va (.int i)) (.va (.int j)) (p i j) := ⟨_, ho, fun G S H v w Q ⟨O, W⟩ q => by
  obtain ⟨h1, h2, W'⟩ := va2 W
  exact ⟨i, j, h1, h2, q H ⟨O, W'⟩⟩⟩
theorem cm_lt : C2 X H0 Oc .Lt (.va (.int i)) (.va (.int j)) (decide (i < j)) := cm_ii (p := fun i j => decide (i < j)) op_lt
theorem cm_le : C2 X H0 Oc .LtE (.va (.int i)) (.va (.int j)) (decide (i ≤ j)) := cm_ii (p := fun i j => decide (i ≤ j)) op_le
theorem cm_gt : C2 X H0 Oc .Gt (.va (.int i)) (.va (.int j)) (decide (j < i)) := cm_ii (p := fun i j => decide (j < i)) op_gt
theorem cm_ge : C2 X H0 Oc .GtE (.va (.int i)) (.va (.int j)) (decide (j ≤ i)) := cm_ii (p := fun i j => decide (j ≤ i)) op_ge
/-- values that stand alone -/
def vD : D → V
  | .bl b => .bl b
  | .int i => .int i
  | .str x => .str x
  | _ => .non
def scD : D → Bool
  | .non | .bl _ | .int _ | .str _ => true
  | _ => false
theorem Rep.vD {K : PySem.W.Frag} {H : Hp} {v : V} (h : Rep K H d v) (hs : scD d = true) : v = vD d := by cases d <;> first | exact h | exact absurd hs Bool.false_ne_true
def eqS (d1 d2 : D) : Bool := decide (vD d1 = vD d2)
theorem eqS_int : eqS (.int i) (.int j) = decide (i = j) := by unfold eqS vD; simp
theorem eqS_bl {x y : Bool} : eqS (.bl x) (.bl y) = decide (x = y) := by unfold eqS vD; simp
theorem eqS_str {x y : Str} : eqS (.str x) (.str y) = decide (x = y) := by unfold eqS vD; simp
theorem cm_eqS (h1 : scD d1 = true) (h2 : scD d2 = true) (hs : scal (vD d1) (vD d2) = true) : C2 X H0 Oc .Eq (.va d1) (.va d2) (eqS d1 d2) := ⟨_, op_eq, fun G S H v w Q ⟨O, W⟩ q => by
  obtain ⟨r1, r2, W'⟩ := va2 W
  obtain rfl := r1.vD h1
  obtain rfl := r2.vD h2
  exact ⟨hs, q H ⟨O, W'⟩⟩⟩
theorem cm_neS (h1 : scD d1 = true) (h2 : scD d2 = true) (hs : scal (vD d1) (vD d2) = true) : C2 X H0 Oc .NotEq (.va d1) (.va d2) (!eqS d1 d2) := ⟨_, op_ne, fun G S H v w Q ⟨O, W⟩ q => by
  obtain ⟨r1, r2, W'⟩ := va2 W
  obtain rfl := r1.vD h1
  obtain rfl := r2.vD h2
  exact ⟨hs, q H ⟨O, W'⟩⟩⟩
theorem cm_eqI : C2 X H0 Oc .Eq (.va (.int i)) (.va (.int j)) (decide (i = j)) := eqS_int (i := i) (j := j) ▸ cm_eqS rfl rfl rfl
theorem cm_neI : C2 X H0 Oc .NotEq (.va (.int i)) (.va (.int j)) (!decide (i = j)) := eqS_int (i := i) (j := j) ▸ cm_neS rfl rfl rfl
theorem cm_eqB {x y : Bool} : C2 X H0 Oc .Eq (.va (.bl x)) (.va (.bl y)) (decide (x = y)) := eqS_bl (x := x) (y := y) ▸ cm_eqS rfl rfl rfl
theorem cm_neB {x y : Bool} : C2 X H0 Oc .NotEq (.va (.bl x)) (.va (.bl y)) (!decide (x = y)) := eqS_bl (x := x) (y := y) ▸ cm_neS rfl rfl rfl
theorem cm_eqT {x y : Str} : C2 X H0 Oc .Eq (.va (.str x)) (.va (.str y)) (decide (x = y)) := eqS_str (x := x) (y := y) ▸ cm_eqS rfl rfl rfl
theorem cm_neT {x y : Str} : C2 X H0 Oc .NotEq (.va (.str x)) (.va (.str y)) (!decide (x = y)) := eqS_str (x := x) (y := y) ▸ cm_neS rfl rfl rfl
/-! data of any depth -/
mutual
def py : D → PyData
  | .bl b => .bool b
  | .int i => .int i
  | .str x => .str x
  | .tup ds => .tuple (pys ds)
  | .lst ds => .list (pys ds)
  | .fz ds => .list (pys ds)
  | _ => .none
def pys : List D → List PyData
  | [] => []
  | d :: ds => py d :: pys ds
end
mutual
def isPy : D → Bool
  | .non | .bl _ | .int _ | .str _ => true
  | .tup ds => isPys ds
  | .lst ds => isPys ds
  | .fz ds => isPys ds
  | _ => false
def isPys : List D → Bool
  | [] => true
  | d :: ds => isPy d && isPys ds
end
section
variable {K : PySem.W.Frag} {H Ht : Hp}
mutual
theorem Rep.dp : ∀ {d : D} {v : V}, Rep K H d v → isPy d = true → Dp K H v (py d)
  | .non, _, h, _ => by rw [show _ = _ from h]; exact .non
  | .bl _, _, h, _ => by rw [show _ = _ from h]; exact .bl _
  | .int _, _, h, _ => by rw [show _ = _ from h]; exact .int _
  | .str _, _, h, _ => by rw [show _ = _ from h]; exact .str _
  | .tup ds, _, ⟨a, vs, h1, h2, h3⟩, hp => by rw [h1]; exact .tup (.of h2) (Reps.dp h3 hp)
  | .lst ds, _, ⟨a, vs, h1, h2, h3⟩, hp => by rw [h1]; exact .lst (.of h2) (Reps.dp h3 hp)
  | .fz ds, _, ⟨a, vs, h1, h2, h3⟩, hp => by rw [h1]; exact .lst h2 (Reps.dp h3 hp)
  | .opq _, _, _, hp => absurd hp Bool.false_ne_true
  | .obj .., _, _, hp => absurd hp Bool.false_ne_true
  | .xd .., _, _, hp => absurd hp Bool.false_ne_true
  | .dT .., _, _, hp => absurd hp Bool.false_ne_true
  | .dK .., _, _, hp => absurd hp Bool.false_ne_true
theorem Reps.dp : ∀ {ds : List D} {vs : List V}, Reps K H ds vs → isPys ds = true → DpAll K H vs (pys ds)
  | [], _, h, _ => by rw [show _ = _ from h]; exact .nil
  | d :: ds, _, ⟨v, us, h1, h2, h3⟩, hp => by
    rw [h1]
    have hp' := Bool.and_eq_true_iff.mp hp
    exact .cons (Rep.dp h2 hp'.1) (Reps.dp h3 hp'.2)
end
theorem DpAll.grow (e : Ex H Ht) {vs : List V} {ds : List PyData} (h : DpAll K H vs ds) : DpAll K Ht vs ds := by
  refine DpAll.rec (motive_1 := fun v d _ => Dp K Ht v d) (motive_2 := fun vs ds _ => DpAll K Ht vs ds) .non .bl .int .str (fun h _ ih => .lst (Ex.l e h) ih) (fun h _ ih => .tup (Ex.t e h) ih) .nil (fun _ _ i1 i2 => .cons i1 i2) h
theorem RepB.dp (e : Ex H Ht) : ∀ {d : D} {v : V}, RepB K Ht H d v → isPy d = true → Dp K Ht v (py d)
  | .non, _, h, _ => by rw [show _ = _ from h]; exact .non
  | .bl _, _, h, _ => by rw [show _ = _ from h]; exact .bl _
  | .int _, _, h, _ => by rw [show _ = _ from h]; exact .int _
  | .str _, _, h, _ => by rw [show _ = _ from h]; exact .str _
  | .tup ds, _, ⟨a, vs, h1, h2, h3⟩, hp => by rw [h1]; exact .tup (.of h2) (Y.DpAll.grow e (Reps.dp h3 hp))
  | .lst ds, _, ⟨a, vs, h1, h2, h3⟩, hp => by rw [h1]; exact .lst (.of h2) (Y.DpAll.grow e (Reps.dp h3 hp))
  | .fz ds, _, ⟨a, vs, h1, h2, h3⟩, hp => by rw [h1]; exact .lst h2 (Y.DpAll.grow e (Reps.dp h3 hp))
  | .opq _, _, _, hp => absurd hp Bool.false_ne_true
  | .obj .., _, _, hp => absurd hp Bool.false_ne_true
  | .xd .., _, _, hp => absurd hp Bool.false_ne_true
  | .dT .., _, _, hp => absurd hp Bool.false_ne_true
  | .dK .., _, _, hp => absurd hp Bool.false_ne_true
end
/-- d1 == d2 as Python has it -/
def eqD (d1 d2 : D) : Bool := PyData.eqv (py d1) (py d2)
/-- comparable data -/
def okD (d : D) : Bool := isPy d && SeqAt.shaped (py d)
theorem cm_eqD (hu : X.A.units + 64 < cLine) (h1 : okD d1 = true) (h2 : okD d2 = true) : C2 X H0 Oc .Eq (.bw d1) (.bw d2) (eqD d1 d2) := ⟨_, op_eqD hu, fun G S H v w Q ⟨O, W⟩ q => by
  obtain ⟨r1, r2, W'⟩ := bw2 W
  have q1 := Bool.and_eq_true_iff.mp h1
  have q2 := Bool.and_eq_true_iff.mp h2
  exact ⟨_, _, r1.dp cut_ex q1.1, r2.dp cut_ex q2.1, q1.2, q2.2, q H ⟨O, W'⟩⟩⟩
theorem cm_neD (hu : X.A.units + 64 < cLine) (h1 : okD d1 = true) (h2 : okD d2 = true) : C2 X H0 Oc .NotEq (.bw d1) (.bw d2) (!eqD d1 d2) := ⟨_, op_neD hu, fun G S H v w Q ⟨O, W⟩ q => by
  obtain ⟨r1, r2, W'⟩ := bw2 W
  have q1 := Bool.and_eq_true_iff.mp h1
  have q2 := Bool.and_eq_true_iff.mp h2
  exact ⟨_, _, r1.dp cut_ex q1.1, r2.dp cut_ex q2.1, q1.2, q2.2, q H ⟨O, W'⟩⟩⟩
/-! ### tests -/
theorem et_val {q : Bool} (h : Ev X H0 Oc Γ e (.va (.bl q))) (he : ∀ whole, isTrue e X.env whole = (do let v ← whole; standAt e.pos; holding [v] (truthy v)) := by intro _; rfl) : Et X H0 Oc Γ e q := fun Δ τ σ H Q hl W k =>
  wpT.of (pt_val pe_wp he) (h Δ τ σ H _ hl W fun v H' ⟨O, W'⟩ => by
    obtain ⟨u, h1, h2⟩ := W'.head
    cases h1
    exact ⟨q, h2, k H' ⟨O, W'.pop⟩⟩)
theorem et_not {q : Bool} (h : Et X H0 Oc Γ e q) : Et X H0 Oc Γ (.UnaryOp .Not e pos) (!q) := fun Δ τ σ H Q hl W k => wpT.of (pt_not pt_wp) (h Δ τ σ H _ hl W fun H' W' => k H' W')
theorem et_w {q : Bool} (h : Ew X H0 Oc Γ e q) : Et X H0 Oc Γ e q := fun Δ τ σ H Q hl W k pins s I => h Δ τ σ H Q hl W k _ pins s I
theorem ew_and1 {q : Bool} (h : Et X H0 Oc Γ a q) : Ew X H0 Oc Γ (.BoolOp .And [a] pos) q := fun Δ τ σ H Q hl W k => wpW.of (pw_and1 pt_wp) (h Δ τ σ H _ hl W k)
theorem ew_or1 {q : Bool} (h : Et X H0 Oc Γ a q) : Ew X H0 Oc Γ (.BoolOp .Or [a] pos) q := fun Δ τ σ H Q hl W k => wpW.of (pw_or1 pt_wp) (h Δ τ σ H _ hl W k)
theorem ew_and {q r : Bool} (h : Et X H0 Oc Γ a q) (hr : q = true → Ew X H0 Oc Γ (.BoolOp .And (b :: es) pos) r) : Ew X H0 Oc Γ (.BoolOp .And (a :: b :: es) pos) (q && r) := fun Δ τ σ H Q hl W k =>
  wpW.of (pw_and pt_wp pw_wp) (h Δ τ σ H _ hl W fun H' W' => by
    cases q with
    | true => exact hr rfl Δ τ σ H' Q hl W' k
    | false => exact k H' W')
theorem ew_or {q r : Bool} (h : Et X H0 Oc Γ a q) (hr : q = false → Ew X H0 Oc Γ (.BoolOp .Or (b :: es) pos) r) : Ew X H0 Oc Γ (.BoolOp .Or (a :: b :: es) pos) (q || r) := fun Δ τ σ H Q hl W k =>
  wpW.of (pw_or pt_wp pw_wp) (h Δ τ σ H _ hl W fun H' W' => by
    cases q with
    | false => exact hr rfl Δ τ σ H' Q hl W' k
    | true => exact k H' W')
/-- .. as values -/
theorem ev_one {op : BoolOp} (h : Ev X H0 Oc Γ a s) : Ev X H0 Oc Γ (.BoolOp op [a] pos) s := fun Δ τ σ H Q hl W k => wpE.of (pe_one pe_wp) (h Δ τ σ H Q hl W k)
theorem ev_and {q r : Bool} (h : Ev X H0 Oc Γ a (.va (.bl q))) (hr : q = true → Ev X H0 Oc Γ (.BoolOp .And (b :: es) pos) (.va (.bl r))) : Ev X H0 Oc Γ (.BoolOp .And (a :: b :: es) pos) (.va (.bl (q && r))) := fun Δ τ σ H Q hl W k =>
  wpE.of (pe_and pe_wp pe_wp) (h Δ τ σ H _ hl W fun v H' ⟨O, W'⟩ => by
    obtain ⟨u, h1, h2⟩ := W'.head
    cases h1
    refine ⟨q, h2, ?_⟩
    cases q with
    | true => exact hr rfl Δ τ σ H' Q hl ⟨O, W'.pop⟩ k
    | false => exact k _ H' ⟨O, W'.pop.flat rfl (show Rep X.K H' (.bl false) (.bl false) from rfl)⟩)
theorem ev_or {q r : Bool} (h : Ev X H0 Oc Γ a (.va (.bl q))) (hr : q = false → Ev X H0 Oc Γ (.BoolOp .Or (b :: es) pos) (.va (.bl r))) : Ev X H0 Oc Γ (.BoolOp .Or (a :: b :: es) pos) (.va (.bl (q || r))) := fun Δ τ σ H Q hl W k =>
  wpE.of (pe_or pe_wp pe_wp) (h Δ τ σ H _ hl W fun v H' ⟨O, W'⟩ => by
    obtain ⟨u, h1, h2⟩ := W'.head
    cases h1
    refine ⟨q, h2, ?_⟩
    cases q with
    | false => exact hr rfl Δ τ σ H' Q hl ⟨O, W'.pop⟩ k
    | true => exact k _ H' ⟨O, W'.pop.flat rfl (show Rep X.K H' (.bl true) (.bl true) from rfl)⟩)
theorem ev_not {q : Bool} (h : Ev X H0 Oc Γ a (.va (.bl q))) : Ev X H0 Oc Γ (.UnaryOp .Not a pos) (.va (.bl (!q))) := fun Δ τ σ H Q hl W k =>
  wpE.of (pe_not pe_wp) (h Δ τ σ H _ hl W fun v H' ⟨O, W'⟩ => by
    obtain ⟨u, h1, h2⟩ := W'.head
    cases h1
    exact ⟨q, h2, k _ H' ⟨O, W'.pop.flat rfl (show Rep X.K H' (.bl (!q)) (.bl (!q)) from rfl)⟩⟩)
theorem ev_if {q : Bool} (h : Et X H0 Oc Γ c q) (h1 : q = true → Ev X H0 Oc Γ a s) (h2 : q = false → Ev X H0 Oc Γ b s) : Ev X H0 Oc Γ (.IfExp c a b pos) s := fun Δ τ σ H Q hl W k =>
  wpE.of (pe_ifExp pt_wp pe_wp pe_wp) (h Δ τ σ H _ hl W fun H' W' => by
    cases q with
    | true => exact h1 rfl Δ τ σ H' Q hl W' k
    | false => exact h2 rfl Δ τ σ H' Q hl W' k)
/-- is None -/
def isN : D → Bool
  | .non => true
  | .opq v => decide (v = .non)
  | _ => false
theorem RepB.isN {K : PySem.W.Frag} {Ht H : Hp} {v : V} (h : RepB K Ht H d v) : decide (v = .non) = isN d := by
  cases d with
  | non => rw [show v = .non from h]; rfl
  | opq w => rw [show v = w from h]; rfl
  | bl _ => rw [show v = _ from h]; rfl
  | int _ => rw [show v = _ from h]; rfl
  | str _ => rw [show v = _ from h]; rfl
  | tup ds => obtain ⟨p, _, h, _⟩ := h; rw [h]; rfl
  | lst ds => obtain ⟨p, _, h, _⟩ := h; rw [h]; rfl
  | fz ds => obtain ⟨p, _, h, _⟩ := h; rw [h]; rfl
  | obj C ns ds => obtain ⟨p, _, _, h, _⟩ := h; rw [h]; rfl
  | xd ns ds => obtain ⟨p, _, h, _⟩ := h; rw [h]; rfl
  | dT ns ds => obtain ⟨p, _, h, _⟩ := h; rw [h]; rfl
  | dK ns ds => obtain ⟨p, _, h, _⟩ := h; rw [h]; rfl
  | er a C p ns ds => obtain ⟨_, h, _⟩ := h; rw [h]; rfl
  | slf a C ns ds => obtain ⟨_, _, h, _⟩ := h; rw [h]; rfl
theorem Wf.popB {G : List Sl} {S : List (Option V)} {H : Hp} {v : V} (W : Wf X.K H0 Oc (.bw d :: G) (some v :: S) H) : (∃ O, RepB X.K H (cut H O) d v) ∧ Wf X.K H0 Oc G S H := by
  obtain ⟨O, W⟩ := W
  obtain ⟨u, h1, h2⟩ := W.head
  cases h1
  exact ⟨⟨O, h2⟩, O, W.pop⟩
theorem Wf.bl {G : List Sl} {S : List (Option V)} {H : Hp} {q : Bool} (W : Wf X.K H0 Oc G S H) : Wf X.K H0 Oc (.va (.bl q) :: G) (some (.bl q) :: S) H := let ⟨O, W⟩ := W; ⟨O, W.flat rfl (show Rep X.K H (.bl q) (.bl q) from rfl)⟩
theorem ev_isN (ha : Ev X H0 Oc Γ a (.bw d)) {k pos'} : Ev X H0 Oc Γ (.Compare a [.Is] [.Constant .none k pos'] pos) (.va (.bl (isN d))) := fun Δ τ σ H Q hl W q =>
  wpE.of (pe_cmp (pc_isN pe_wp) rfl) (ha Δ τ σ H _ hl W fun v H' W' => by
    obtain ⟨⟨O, h⟩, W2⟩ := W'.popB
    rw [h.isN]
    exact q _ H' W2.bl)
theorem et_isN (ha : Ev X H0 Oc Γ a (.bw d)) {k pos'} : Et X H0 Oc Γ (.Compare a [.Is] [.Constant .none k pos'] pos) (isN d) := fun Δ τ σ H Q hl W q =>
  wpT.of (pt_cmp (pc_isN pe_wp) rfl) (ha Δ τ σ H _ hl W fun v H' W' => by
    obtain ⟨⟨O, h⟩, W2⟩ := W'.popB
    exact ⟨_, rfl, by rw [h.isN]; exact q H' W2⟩)
theorem et_notN (ha : Ev X H0 Oc Γ a (.bw d)) {k pos'} : Et X H0 Oc Γ (.Compare a [.IsNot] [.Constant .none k pos'] pos) (!isN d) := fun Δ τ σ H Q hl W q =>
  wpT.of (pt_cmp (pc_notN pe_wp) rfl) (ha Δ τ σ H _ hl W fun v H' W' => by
    obtain ⟨⟨O, h⟩, W2⟩ := W'.popB
    exact ⟨_, rfl, by rw [h.isN]; exact q H' W2⟩)
/-! ### arguments, displays -/
theorem ea_nil : Ea X H0 Oc Γ [] [] := fun Δ τ σ H Q hl ⟨O, W⟩ k => wpA.of pa_nil (k [] O H W rfl)
theorem ea_cons (ha : Ev X H0 Oc Γ a s) (hr : Ea X H0 Oc Γ es ss) (hst : starEach (a :: es) X.env = (false, eval a X.env) :: starEach es X.env := by rfl) : Ea X H0 Oc Γ (a :: es) (s :: ss) := fun Δ τ σ H Q hl W k =>
  wpA.of (pa_cons pe_wp pa_wp hst) (ha Δ τ σ H _ hl W fun v H1 W1 => hr (s :: Δ) (some v :: τ) σ H1 _ (by simp [hl]) W1 fun vs O H2 W2 ok => k (v :: vs) O H2 W2.pop ⟨v, vs, rfl, W2.head, ok⟩)
end
end Y

namespace Y
open PySem L2
section
variable {X : Cx} {H0 : Hp} {Oc : List Addr} {Γ : List Sl} {e a b c : Expr} {es : List Expr} {s s1 s2 : Sl} {ss : List Sl} {d d1 d2 : D} {ds ds1 ds2 : List D} {i j : Int} {pos p2 : Pos}
/-! ### displays -/
/-- slots whose objects are all given up at once -/
def dats : List Sl → Option (List D)
  | [] => some []
  | .va d :: ss => (dats ss).map (d :: ·)
  | _ => none
theorem ArgsOk.reps {K : PySem.W.Frag} {O : List Addr} {H : Hp} : ∀ {ss : List Sl} {vs : List V} {ds : List D}, ArgsOk K H0 O H ss vs → dats ss = some ds → Reps K (cut H O) ds vs
  | [], _, _, h, e => by
    cases e
    exact h
  | .va d :: ss, _, _, ⟨v, us, h1, ⟨w, h2, h3⟩, h4⟩, e => by
    cases q : dats ss with
    | none => simp [dats, q] at e
    | some es =>
      simp only [dats, q, Option.map_some, Option.some.injEq] at e
      subst e
      cases h2
      exact ⟨v, us, h1, h3, ArgsOk.reps h4 q⟩
  | .no :: _, _, _, _, e => by cases e
  | .ow _ :: _, _, _, _, e => by cases e
  | .br _ :: _, _, _, _, e => by cases e
  | .bw _ :: _, _, _, _, e => by cases e
theorem Reps.len' {K : PySem.W.Frag} {H : Hp} {vs : List V} (h : Reps K H ds vs) (hn : ds.length ≤ 1000000) : vs.length ≤ sizeLine := by
  rw [Reps.len h, sizeLine_eq]
  omega
theorem ev_tup {x1} (h : Ea X H0 Oc Γ es ss) (hd : dats ss = some ds) (hn : ds.length ≤ 1000000) : Ev X H0 Oc Γ (.Tuple es x1 pos) (.va (.tup ds)) := fun Δ τ σ H Q hl W q =>
  wpE.of (pe_tup pa_wp) (h Δ τ σ H _ hl W fun vs O H' W' ok => by
    have r := ok.reps hd
    exact ⟨r.len' hn, fun p hp => q _ _ ⟨O, W'.newTup hp r⟩⟩)
theorem ev_lst (h : Ea X H0 Oc Γ es ss) (hd : dats ss = some ds) (hn : ds.length ≤ 1000000) : Ev X H0 Oc Γ (.List es pos) (.ow (.lst ds)) := fun Δ τ σ H Q hl W q =>
  wpE.of (pe_lst pa_wp) (h Δ τ σ H _ hl W fun vs O H' W' ok => by
    have r := ok.reps hd
    exact ⟨r.len' hn, fun p hp => q _ _ ⟨_, W'.newLst hp r⟩⟩)
/-! ### items, slices -/
theorem Reps.atI {K : PySem.W.Frag} {H : Hp} {vs : List V} (h : Reps K H ds vs) (hi : L2.atI ds i = some d) : ∃ v, L2.atI vs i = some v ∧ Rep K H d v := by
  unfold L2.atI at hi ⊢
  rw [Reps.len h]
  cases q : ixN ds.length i with
  | none => rw [q] at hi; cases hi
  | some k =>
    rw [q] at hi
    exact Reps.get h hi
theorem ev_ixL (ha : Ev X H0 Oc Γ a (.bw (.lst ds))) (hb : Ev X H0 Oc Γ b (.va (.int i))) (hi : L2.atI ds i = some d) (hs : PlainIx b := by exact fun _ _ => rfl) : Ev X H0 Oc Γ (.Subscript a b pos) (.va d) :=
  ev_op2 (fun ha hb => pe_ix ix_list ha hb hs) ha hb fun G S H v w Q ⟨O, W⟩ q => by
    obtain ⟨u, h1, h2⟩ := W.head
    obtain ⟨u', h1', p, vs, h2', h3, h4⟩ := W.pop.head
    cases h1
    cases h1'
    obtain ⟨z, hz, rz⟩ := h4.atI hi
    exact ⟨p, vs, i, z, h2', h2, .of h3, hz, q z H ⟨O, W.pop.pop.push ⟨z, rfl, rz⟩ fun _ z => nomatch z⟩⟩
theorem ev_ixF (ha : Ev X H0 Oc Γ a (.bw (.fz ds))) (hb : Ev X H0 Oc Γ b (.va (.int i))) (hi : L2.atI ds i = some d) (hs : PlainIx b := by exact fun _ _ => rfl) : Ev X H0 Oc Γ (.Subscript a b pos) (.va d) :=
  ev_op2 (fun ha hb => pe_ix ix_list ha hb hs) ha hb fun G S H v w Q ⟨O, W⟩ q => by
    obtain ⟨u, h1, h2⟩ := W.head
    obtain ⟨u', h1', p, vs, h2', h3, h4⟩ := W.pop.head
    cases h1
    cases h1'
    obtain ⟨z, hz, rz⟩ := h4.atI hi
    exact ⟨p, vs, i, z, h2', h2, h3, hz, q z H ⟨O, W.pop.pop.push ⟨z, rfl, rz⟩ fun _ z => nomatch z⟩⟩
theorem ev_ixT (ha : Ev X H0 Oc Γ a (.bw (.tup ds))) (hb : Ev X H0 Oc Γ b (.va (.int i))) (hi : L2.atI ds i = some d) (hs : PlainIx b := by exact fun _ _ => rfl) : Ev X H0 Oc Γ (.Subscript a b pos) (.va d) :=
  ev_op2 (fun ha hb => pe_ix ix_tup ha hb hs) ha hb fun G S H v w Q ⟨O, W⟩ q => by
    obtain ⟨u, h1, h2⟩ := W.head
    obtain ⟨u', h1', p, vs, h2', h3, h4⟩ := W.pop.head
    cases h1
    cases h1'
    obtain ⟨z, hz, rz⟩ := h4.atI hi
    exact ⟨p, vs, i, z, h2', h2, .of h3, hz, q z H ⟨O, W.pop.pop.push ⟨z, rfl, rz⟩ fun _ z => nomatch z⟩⟩
/-- a slice's part -/
def Eo (X : Cx) (H0 : Hp) (Oc : List Addr) (Γ : List Sl) (e : Option Expr) (o : Option Int) : Prop := ∃ t : TO, PO X e t ∧ ∀ (Δ : List Sl) (τ : List (Option V)) (σ : L2.St) (H : Hp) (Q : Option Int → Hp → Prop), τ.length = Δ.length → Wf X.K H0 Oc (Δ ++ Γ) (τ ++ σ) H →
  (∀ H', Wf X.K H0 Oc (Δ ++ Γ) (τ ++ σ) H' → Q o H') → t σ H Q
theorem eo_no : Eo X H0 Oc Γ none none := ⟨_, po_none, fun Δ τ σ H Q _ W q => q H W⟩
theorem eo_at (h : Ev X H0 Oc Γ e (.va (.int i))) : Eo X H0 Oc Γ (some e) (some i) := ⟨_, po_some pe_wp, fun Δ τ σ H Q hl W q => h Δ τ σ H _ hl W fun v H' ⟨O, W'⟩ => by
  obtain ⟨u, h1, h2⟩ := W'.head
  cases h1
  exact ⟨i, h2, q H' ⟨O, W'.pop⟩⟩⟩
def cutD {α : Type} (xs : List α) (lo hi : Option Int) : List α := (xs.drop (HT.sIx xs.length 0 lo)).take (HT.sIx xs.length xs.length hi - HT.sIx xs.length 0 lo)
theorem cutD_map {α β : Type} {f : α → β} {xs : List α} {lo hi : Option Int} : cutD (xs.map f) lo hi = (cutD xs lo hi).map f := by
  unfold cutD
  rw [List.length_map, List.map_take, List.map_drop]
theorem Reps.cut {K : PySem.W.Frag} {H : Hp} {vs : List V} {lo hi : Option Int} (h : Reps K H ds vs) : Reps K H (cutD ds lo hi) (cutV vs lo hi) := by
  unfold cutD cutV
  rw [Reps.len h]
  exact Reps.take _ (Reps.drop _ h)
theorem ev_slL {lo hi : Option Expr} {l h : Option Int} (ha : Ev X H0 Oc Γ a (.bw (.lst ds))) (hlo : Eo X H0 Oc Γ lo l) (hhi : Eo X H0 Oc Γ hi h) : Ev X H0 Oc Γ (.Subscript a (.Slice lo hi none p2) pos) (.ow (.lst (cutD ds l h))) := fun Δ τ σ H Q hl W q => by
  obtain ⟨tl, pl, kl⟩ := hlo
  obtain ⟨th, ph, kh⟩ := hhi
  refine wpE.of (pe_slice sl_list pe_wp pl ph) ?_
  refine ha Δ τ σ H _ hl W fun v H1 W1 => ?_
  refine kl (.bw (.lst ds) :: Δ) (some v :: τ) σ H1 _ (by simp [hl]) W1 fun H2 W2 => ?_
  refine kh (.bw (.lst ds) :: Δ) (some v :: τ) σ H2 _ (by simp [hl]) W2 fun H3 ⟨O, W3⟩ => ?_
  obtain ⟨u', h1', p, vs, h2', h3, h4⟩ := W3.head
  cases h1'
  exact ⟨p, vs, h2', .of h3, fun x hx => q _ _ ⟨_, W3.pop.newLst hx h4.cut⟩⟩
theorem whole_cut {vs : List V} {l h : Option Int} (hw : HT.sIx vs.length 0 l = 0 ∧ HT.sIx vs.length vs.length h = vs.length) : cutV vs l h = vs := by
  unfold cutV
  rw [hw.1, hw.2]
  simp
theorem ev_slT {lo hi : Option Expr} {l h : Option Int} (ha : Ev X H0 Oc Γ a (.va (.tup ds))) (hlo : Eo X H0 Oc Γ lo l) (hhi : Eo X H0 Oc Γ hi h) : Ev X H0 Oc Γ (.Subscript a (.Slice lo hi none p2) pos) (.va (.tup (cutD ds l h))) := fun Δ τ σ H Q hl W q => by
  obtain ⟨tl, pl, kl⟩ := hlo
  obtain ⟨th, ph, kh⟩ := hhi
  refine wpE.of (pe_slice sl_tupA pe_wp pl ph) ?_
  refine ha Δ τ σ H _ hl W fun v H1 W1 => ?_
  refine kl (.va (.tup ds) :: Δ) (some v :: τ) σ H1 _ (by simp [hl]) W1 fun H2 W2 => ?_
  refine kh (.va (.tup ds) :: Δ) (some v :: τ) σ H2 _ (by simp [hl]) W2 fun H3 ⟨O, W3⟩ => ?_
  obtain ⟨u', h1', p, vs, h2', h3, h4⟩ := W3.head
  cases h1'
  refine ⟨p, vs, h2', .of (cut_ex _ _ h3), fun hw => ?_, fun hw x hx => q _ _ ⟨O, W3.pop.newTup hx h4.cut⟩⟩
  refine q _ H3 ⟨O, W3.pop.push ⟨.ref p, rfl, p, _, rfl, h3, ?_⟩ fun _ z => nomatch z⟩
  have := h4.cut (lo := l) (hi := h)
  rw [whole_cut hw] at this
  exact this
/-! ### joined, repeated -/
theorem ev_catL (ha : Ev X H0 Oc Γ a (.bw (.lst ds1))) (hb : Ev X H0 Oc Γ b (.bw (.lst ds2))) (hn : ds1.length + ds2.length ≤ 1000000) : Ev X H0 Oc Γ (.BinOp a .Add b pos) (.ow (.lst (ds1 ++ ds2))) :=
  ev_op2 (fun ha hb => pe_op op_cat ha hb) ha hb fun G S H v w Q ⟨O, W⟩ q => by
    obtain ⟨⟨p, vs, e1, h1, r1⟩, ⟨p', us, e2, h2, r2⟩, W'⟩ := bw2 W
    refine ⟨p, p', vs, us, e1, e2, h1, h2, ?_, fun x hx => q _ _ ⟨_, W'.newLst hx (r1.app r2)⟩⟩
    rw [r1.len, r2.len, sizeLine_eq]
    omega
theorem ev_catT (ha : Ev X H0 Oc Γ a (.va (.tup ds1))) (hb : Ev X H0 Oc Γ b (.va (.tup ds2))) (hn : ds1.length + ds2.length ≤ 1000000) : Ev X H0 Oc Γ (.BinOp a .Add b pos) (.va (.tup (ds1 ++ ds2))) :=
  ev_op2 (fun ha hb => pe_op op_catA ha hb) ha hb fun G S H v w Q ⟨O, W⟩ q => by
    obtain ⟨⟨p, vs, e1, h1, r1⟩, ⟨p', us, e2, h2, r2⟩, W'⟩ := va2 W
    have r := r1.app r2
    refine ⟨p, p', vs, us, e1, e2, .of (cut_ex _ _ h1), .of (cut_ex _ _ h2), ?_, fun z => ?_, fun _ z => ?_, fun _ _ x hx => q _ _ ⟨_, W'.newTup hx r⟩⟩
    · rw [r1.len, r2.len, sizeLine_eq]
      omega
    · rw [z, List.nil_append] at r
      exact q _ H ⟨O, W'.push ⟨.ref p', rfl, p', _, rfl, h2, r⟩ fun _ z => nomatch z⟩
    · rw [z, List.append_nil] at r
      exact q _ H ⟨O, W'.push ⟨.ref p, rfl, p, _, rfl, h1, r⟩ fun _ z => nomatch z⟩
theorem Reps.flat {K : PySem.W.Frag} {H : Hp} {vs : List V} (h : Reps K H ds vs) : ∀ n : Nat, Reps K H (List.replicate n ds).flatten (List.replicate n vs).flatten
  | 0 => rfl
  | n + 1 => by
    rw [List.replicate_succ, List.replicate_succ, List.flatten_cons, List.flatten_cons]
    exact h.app (Reps.flat h n)
theorem ev_repL (ha : Ev X H0 Oc Γ a (.bw (.lst ds))) (hb : Ev X H0 Oc Γ b (.va (.int i))) (h1 : i ≤ 1000000) (h2 : -1000000 ≤ i) (hn : ds.length * i.toNat ≤ 1000000) : Ev X H0 Oc Γ (.BinOp a .Mult b pos) (.ow (.lst (List.replicate i.toNat ds).flatten)) :=
  ev_op2 (fun ha hb => pe_op op_rep ha hb) ha hb fun G S H v w Q ⟨O, W⟩ q => by
    obtain ⟨u, g1, g2⟩ := W.head
    obtain ⟨u', g1', p, vs, e1, g3, r⟩ := W.pop.head
    cases g1
    cases g1'
    refine ⟨p, i, vs, e1, g2, g3, by omega, by omega, ?_, fun x hx => q _ _ ⟨_, W.pop.pop.newLst hx (r.flat _)⟩⟩
    rw [r.len, sizeLine_eq]
    omega
theorem ev_revL {k : Nat} {p1 p3 p4 : Pos} (ha : Ev X H0 Oc Γ a (.bw (.lst ds))) : Ev X H0 Oc Γ (.Subscript a (.Slice none none (some (.UnaryOp .USub (.Constant (.int 1) k p1) p3)) p4) pos) (.ow (.lst ds.reverse)) := fun Δ τ σ H Q hl W q =>
  wpE.of (pe_revL pe_wp) (ha Δ τ σ H _ hl W fun v H' ⟨O, W'⟩ => by
    obtain ⟨u, g1, p, vs, e1, g3, r⟩ := W'.head
    cases g1
    exact ⟨p, vs, e1, .of g3, fun x hx => q _ _ ⟨_, W'.pop.newLst hx r.rev⟩⟩)
/-! ### calls of what is built in -/
/-- one argument -/
theorem ev_b1 {id : String} {x : Str} {p : Pos} {r : List V → Hp → VK → Prop} (hc : CallR X (.builtin id) r) (ha : Ev X H0 Oc Γ a s1) (hm : X.mg x = none) (hv : bootBuiltins x = some (.builtin id)) (hg : Gl X x)
    (hr : ∀ (G : List Sl) (S : List (Option V)) (H : Hp) (v : V) (Q : VK), Wf X.K H0 Oc (s1 :: G) (some v :: S) H → (∀ u H', Wf X.K H0 Oc (s :: G) (some u :: S) H' → Q u H') → r [v] H Q)
    (hn : x ≠ "__name__") (hd : (x == ("__debug__" : Str)) = false) (he : starEach [a] X.env = (false, eval a X.env) :: starEach [] X.env) (hpl : (backTo pos (starEach [] X.env)).any (·.1) = false) : Ev X H0 Oc Γ (.Call (.Name x p) [a] [] pos) s := fun Δ τ σ H Q hl W q =>
  wpE.of (pe_callB hc hg hm hv (pa_cons pe_wp pa_nil he) hn hd he hpl) (ha Δ τ σ H _ hl W fun v H1 W1 => hr _ _ H1 v Q W1 q)
theorem ev_t1 {T : String} {x : Str} {p : Pos} {r : List V → Hp → VK → Prop} (hc : CallR X (.type T) r) (ha : Ev X H0 Oc Γ a s1) (hm : X.mg x = none) (hv : bootBuiltins x = some (.type T)) (hg : Gl X x)
    (hr : ∀ (G : List Sl) (S : List (Option V)) (H : Hp) (v : V) (Q : VK), Wf X.K H0 Oc (s1 :: G) (some v :: S) H → (∀ u H', Wf X.K H0 Oc (s :: G) (some u :: S) H' → Q u H') → r [v] H Q)
    (hn : x ≠ "__name__") (hd : (x == ("__debug__" : Str)) = false) (he : starEach [a] X.env = (false, eval a X.env) :: starEach [] X.env) (hpl : (backTo pos (starEach [] X.env)).any (·.1) = false) : Ev X H0 Oc Γ (.Call (.Name x p) [a] [] pos) s := fun Δ τ σ H Q hl W q =>
  wpE.of (pe_callTy hc hg hm hv (pa_cons pe_wp pa_nil he) hn hd he hpl) (ha Δ τ σ H _ hl W fun v H1 W1 => hr _ _ H1 v Q W1 q)
/-- the items of a list or tuple -/
def seqD : D → Option (List D)
  | .lst ds => some ds
  | .tup ds => some ds
  | .fz ds => some ds
  | _ => none
theorem RepB.seq {K : PySem.W.Frag} {Ht H : Hp} {v : V} (h : RepB K Ht H d v) (hd : seqD d = some ds) : ∃ p vs, v = .ref p ∧ (SqL K Ht p vs ∨ SqT K Ht p vs) ∧ Reps K H ds vs := by
  cases d <;> first | cases hd
  · obtain ⟨p, vs, h1, h2, h3⟩ := h; exact ⟨p, vs, h1, .inr (.of h2), h3⟩
  · obtain ⟨p, vs, h1, h2, h3⟩ := h; exact ⟨p, vs, h1, .inl (.of h2), h3⟩
  · obtain ⟨p, vs, h1, h2, h3⟩ := h; exact ⟨p, vs, h1, .inl h2, h3⟩
theorem ev_len {p : Pos} (ha : Ev X H0 Oc Γ a (.bw d)) (hd : seqD d = some ds) (hm : X.mg "len" = none) (hg : Gl X "len") (he : starEach [a] X.env = (false, eval a X.env) :: starEach [] X.env) (hpl : (backTo pos (starEach [] X.env)).any (·.1) = false) :
    Ev X H0 Oc Γ (.Call (.Name "len" p) [a] [] pos) (.va (.int ds.length)) := ev_b1 call_len_seq ha hm PySem.boot_len hg (fun G S H v Q W q => by
      obtain ⟨⟨O, h⟩, O', W'⟩ := W.popB
      obtain ⟨p, vs, e, hq, r⟩ := h.seq hd
      exact ⟨p, vs, by rw [e], hq, q _ H ⟨O', W'.flat rfl (show Rep X.K H (.int ds.length) (.int vs.length) by rw [r.len]; rfl)⟩⟩) (by decide) (by decide) he hpl
theorem ev_list {p : Pos} (ha : Ev X H0 Oc Γ a (.bw d)) (hd : seqD d = some ds) (hm : X.mg "list" = none) (hg : Gl X "list") (he : starEach [a] X.env = (false, eval a X.env) :: starEach [] X.env) (hpl : (backTo pos (starEach [] X.env)).any (·.1) = false) :
    Ev X H0 Oc Γ (.Call (.Name "list" p) [a] [] pos) (.ow (.lst ds)) := ev_t1 call_list_of ha hm (by decide +kernel) hg (fun G S H v Q ⟨O, W⟩ q => by
      obtain ⟨u, g1, h⟩ := W.head
      cases g1
      obtain ⟨p, vs, e, hq, r⟩ := h.seq hd
      exact ⟨p, vs, by rw [e], hq, fun x hx => q _ _ ⟨_, W.pop.newLst hx r⟩⟩) (by decide) (by decide) he hpl
theorem ev_tupL {p : Pos} (ha : Ev X H0 Oc Γ a (.bw (.lst ds))) (hm : X.mg "tuple" = none) (hg : Gl X "tuple") (he : starEach [a] X.env = (false, eval a X.env) :: starEach [] X.env) (hpl : (backTo pos (starEach [] X.env)).any (·.1) = false) :
    Ev X H0 Oc Γ (.Call (.Name "tuple" p) [a] [] pos) (.va (.tup ds)) := ev_t1 call_tuple_of ha hm (by decide +kernel) hg (fun G S H v Q ⟨O, W⟩ q => by
      obtain ⟨u, g1, p, vs, e, hq, r⟩ := W.head
      cases g1
      exact ⟨p, vs, by rw [e], .inl ⟨.of hq, fun x hx => q _ _ ⟨_, W.pop.newTup hx r⟩⟩⟩) (by decide) (by decide) he hpl
theorem ev_tupT {p : Pos} (ha : Ev X H0 Oc Γ a (.va (.tup ds))) (hm : X.mg "tuple" = none) (hg : Gl X "tuple") (he : starEach [a] X.env = (false, eval a X.env) :: starEach [] X.env) (hpl : (backTo pos (starEach [] X.env)).any (·.1) = false) :
    Ev X H0 Oc Γ (.Call (.Name "tuple" p) [a] [] pos) (.va (.tup ds)) := ev_t1 call_tuple_of ha hm (by decide +kernel) hg (fun G S H v Q ⟨O, W⟩ q => by
      obtain ⟨u, g1, p, vs, e, hq, r⟩ := id W.head
      cases g1
      refine ⟨p, vs, by rw [e], .inr ⟨.of (cut_ex _ _ hq), ?_⟩⟩
      have := q v H ⟨O, W⟩
      rw [e] at this
      exact this) (by decide) (by decide) he hpl
theorem ev_int1 {p : Pos} (ha : Ev X H0 Oc Γ a (.va (.int i))) (hm : X.mg "int" = none) (hg : Gl X "int") (he : starEach [a] X.env = (false, eval a X.env) :: starEach [] X.env) (hpl : (backTo pos (starEach [] X.env)).any (·.1) = false) :
    Ev X H0 Oc Γ (.Call (.Name "int" p) [a] [] pos) (.va (.int i)) := ev_t1 call_int1 ha hm (by decide +kernel) hg (fun G S H v Q ⟨O, W⟩ q => by
      obtain ⟨u, g1, e⟩ := W.head
      cases g1
      exact .inl ⟨i, by rw [show v = _ from e], q _ _ ⟨O, W.pop.flat rfl (show Rep X.K H (.int i) (.int i) from rfl)⟩⟩) (by decide) (by decide) he hpl
end
end Y

namespace Y
open PySem L2

/-! ## what a def promises, in terms of data -/
/-- how a statement or a body ends -/
inductive Out where
  | nx (Γ : List Sl) | ret (s : Sl) | brk (Γ : List Sl) | cnt (Γ : List Sl) | exc (C : Addr) (ns : List Str) (ds : List D) (Γ : Option (List Sl))
/-- the arguments' slots and the end that is promised for them -/
abbrev Pm := List Sl → Out → Prop
/-- a slot that may be handed back -/
def Sl.res : Sl → Bool
  | .va _ | .ow _ | .no => true
  | _ => false
/-- a slot as a callee has it -/
def Sl.arg : Sl → Sl
  | .ow d => .br d
  | .bw d => .br d
  | s => s
section
variable (K : PySem.W.Frag)
def SatR (H0 : Hp) (Oc : List Addr) (Q : VK) (s : Sl) : Prop := ∀ v H', Wf K H0 Oc [s] [some v] H' → Q v H'
def SatX (H0 : Hp) (Oc : List Addr) (E : XK) (C : Addr) (ns : List Str) (ds : List D) : Prop := ∀ d H', Wf K H0 Oc [.va (.xd ns ds)] [some (.ref d)] H' → E (.ref C) (some d) H'
def SatF (H0 : Hp) (Oc : List Addr) (Q : VK) (E : XK) : Out → Prop
  | .ret s => SatR K H0 Oc Q s
  | .exc C ns ds _ => SatX K H0 Oc E C ns ds
  | _ => False
def mkSp (P : Pm) : Sp := fun vs H Q E => ∃ Oc Γ o, P Γ o ∧ Wf K H Oc Γ (vs.map some) H ∧ SatF K H Oc Q E o
/-- __init__: the object in the making is one's own -/
def SatI (H0 : Hp) (Oc : List Addr) (self : V) (Q : VK) (E : XK) : Out → Prop
  | .ret s => ∀ H', Wf K H0 Oc [s] [some self] H' → Q .non H'
  | .exc C ns ds _ => SatX K H0 Oc E C ns ds
  | _ => False
def mkSpI (C : Addr) (P : Pm) : Sp := fun vs H Q E => ∃ H0 Oc Γ o self us, P Γ o ∧ vs = self :: us ∧ Wf K H0 Oc (.ow (.obj C [] []) :: Γ) (vs.map some) H ∧ SatI K H0 Oc self Q E o
end
/-- a def of the module -/
structure FnG (Pr : Program) (w : World) (K : PySem.W.Frag) (mg : Str → Option Value) (base : Heap) (x : Str) (k : Nat) (ps : List Str) (P : Pm) : Prop where
  ex : ∃ f fd, FnOk Pr w K mg base (L2N.CX Pr w) k f fd ps (mkSp K P) ∧ mg x = some (.ref f) ∧ PySem.W.keepIn K (.ref f) = true ∧ L2.Binds K fd ps []
/-- a method of the class at C -/
structure MtG (Pr : Program) (w : World) (K : PySem.W.Frag) (mg : Str → Option Value) (base : Heap) (C : Addr) (m : Str) (k : Nat) (ps : List Str) (P : Pm) : Prop where
  ex : ∃ f fd, FnOk Pr w K mg base (L2N.CX Pr w) k f fd ps (mkSp K P) ∧ Meth K C m f ∧ L2.Binds K fd ps []
/-- a class with its __init__ -/
structure ClG (Pr : Program) (w : World) (K : PySem.W.Frag) (mg : Str → Option Value) (base : Heap) (x : Str) (C : Addr) (k : Nat) (ps : List Str) (P : Pm) : Prop where
  ex : ∃ f fd, FnOk Pr w K mg base (L2N.CX Pr w) k f fd ps (mkSpI K C P) ∧ Mk K C f ∧ mg x = some (.ref C) ∧ L2.Binds K fd ps []
/-- a property -/
structure PrG (Pr : Program) (w : World) (K : PySem.W.Frag) (mg : Str → Option Value) (base : Heap) (C : Addr) (m : Str) (k : Nat) (ps : List Str) (P : Pm) : Prop where
  ex : ∃ p f fd, FnOk Pr w K mg base (L2N.CX Pr w) k f fd ps (mkSp K P) ∧ PropOf K C m p f ∧ L2.Binds K fd ps []

section
variable {K : PySem.W.Frag} {H0 H H' : Hp} {O Oc : List Addr} {G : List Sl} {S : List (Option V)} {s : Sl} {ss : List Sl} {vs : List V} {v : V}
theorem SlOk.arg (e : Ex H0 H) (h : SlOk K H0 O H s (some v)) : SlOk K H O H s.arg (some v) := by
  cases s with
  | no => trivial
  | va d => exact h
  | ow d => exact ⟨v, rfl, h.b e rfl⟩
  | br d => exact ⟨v, rfl, h.b e rfl⟩
  | bw d => exact ⟨v, rfl, h.b e rfl⟩
theorem arg_not : ∀ {ss : List Sl} {i : Nat} {d : D}, (ss.map Sl.arg)[i]? = some (.ow d) → False := fun {ss i d} h => by
  rw [List.getElem?_map] at h
  cases q : ss[i]? with
  | none => rw [q] at h; cases h
  | some s' =>
    rw [q] at h
    cases s' <;> cases h
theorem ArgsOk.len : ∀ {ss : List Sl} {vs : List V}, ArgsOk K H0 O H ss vs → vs.length = ss.length
  | [], _, h => by rw [show _ = _ from h] <;> rfl
  | _ :: _, _, ⟨_, _, h1, _, h3⟩ => by rw [h1, List.length_cons, List.length_cons, ArgsOk.len h3]
theorem ArgsOk.at : ∀ {ss : List Sl} {vs : List V} {i : Nat} {s : Sl} {x : Option V}, ArgsOk K H0 O H ss vs → ss[i]? = some s → (vs.map some)[i]? = some x → ∃ v, x = some v ∧ SlOk K H0 O H s (some v)
  | [], _, _, _, _, _, e, _ => by simp at e
  | _ :: _, _, 0, _, _, ⟨v, _, h1, h2, _⟩, e, f => by
    subst h1
    have e1 := Option.some.inj e
    have e2 := Option.some.inj f
    subst e1
    exact ⟨v, e2.symm, h2⟩
  | _ :: _, _, i + 1, _, _, ⟨_, us, h1, _, h3⟩, e, f => by
    subst h1
    exact ArgsOk.at (i := i) h3 e f
/-- the callee's view of its arguments -/
theorem WfO.callee (W : WfO K H0 Oc O G S H) (ok : ArgsOk K H0 O H ss vs) : Wf K H O (ss.map Sl.arg) (vs.map some) H := by
  refine ⟨O, fun a z => z, fun a z => .inl z, W.live, W.live, fun _ _ z => z, by rw [List.length_map, List.length_map, ok.len], fun i s x h1 h2 => ?_, fun i j p d d' h1 _ _ _ => (arg_not h1).elim⟩
  rw [List.getElem?_map] at h1
  cases q : ss[i]? with
  | none => rw [q] at h1; cases h1
  | some s' =>
    rw [q] at h1
    cases h1
    obtain ⟨v, rfl, h⟩ := ok.at q h2
    exact h.arg W.ex
theorem cut_own2 {O2 : List Addr} (hn : ∀ a ∈ O2, a ∈ O ∨ H a = none) (e : Ex H H') : Ex (cut H O) (cut H' O2) := fun a o h => by
  obtain ⟨h1, h2⟩ := cut_iff.mp h
  refine cut_iff.mpr ⟨e _ _ h1, h2.imp (fun n z => ?_) id⟩
  rcases hn a z with q | q
  · exact n q
  · rw [q] at h1; cases h1
theorem SlOk.later {O2 : List Addr} {x : Option V} (sub : ∀ a ∈ O, a ∈ O2) (hn : ∀ a ∈ O2, a ∈ O ∨ H a = none) (e : Ex H H') : ∀ {s : Sl}, SlOk K H0 O H s x → SlOk K H0 O2 H' s x
  | .no, _ => trivial
  | .va _, ⟨v, h1, h2⟩ => ⟨v, h1, Rep.mono (cut_own2 hn e) h2⟩
  | .ow _, ⟨q, o, h1, h2, h3, h4, h5⟩ => ⟨q, o, h1, sub _ h2, h3, e _ _ h4, RepH.mono (cut_own2 hn e) h5⟩
  | .br _, ⟨v, h1, h2⟩ => ⟨v, h1, RepB.mono (fun _ _ z => z) (cut_own2 hn e) h2⟩
  | .bw _, ⟨v, h1, h2⟩ => ⟨v, h1, RepB.mono e (cut_own2 hn e) h2⟩
/-- behind a call -/
theorem WfO.after (W : WfO K H0 Oc O G S H) (W2 : Wf K H O [s] [some v] H') (hs : s.res = true) : Wf K H0 Oc (s :: G) (some v :: S) H' := by
  obtain ⟨O2, W2⟩ := W2
  have e := W2.ex
  have h0 : ∀ {p}, H p = none → H0 p = none := fun {p} z => by
    cases q : H0 p with
    | none => rfl
    | some u => rw [W.ex _ _ q] at z; cases z
  refine ⟨O2, fun a z => W2.sub a (W.sub a z), fun a z => (W2.new a z).elim (W.new a) fun q => .inr (h0 q), W.old, W2.live, Ex.tr W.ex e, by simp [W.len], fun i s' x h1 h2 => ?_, ?_⟩
  · cases i with
    | zero =>
      have e1 := Option.some.inj h1
      have e2 := Option.some.inj h2
      subst e1
      subst e2
      have hh := W2.head
      cases s with
      | no => trivial
      | va d => exact hh
      | ow d =>
        obtain ⟨p, o, q1, q2, q3, q4, q5⟩ := hh
        exact ⟨p, o, q1, q2, h0 q3, q4, q5⟩
      | br d => exact absurd hs Bool.false_ne_true
      | bw d => exact absurd hs Bool.false_ne_true
    | succ i => exact (W.ok i s' x h1 h2).later W2.sub W2.new e
  · have newer : ∀ {p : Addr} {d : D}, some s = some (.ow d) → some (some v) = some (some (V.ref p)) → ∀ {i : Nat} {d' : D}, G[i]? = some (.ow d') → S[i]? = some (some (.ref p)) → False := fun {p d} a b {i d'} h1 h2 => by
      cases a
      cases b
      obtain ⟨_, z, _⟩ := W2.owner (i := 0) rfl rfl
      obtain ⟨_, _, o, z', _⟩ := W.owner h1 h2
      rw [z] at z'
      cases z'
    intro i j p d d' h1 h2 h3 h4
    cases i with
    | zero =>
      cases j with
      | zero => rfl
      | succ j => exact (newer h1 h2 h3 h4).elim
    | succ i =>
      cases j with
      | zero => exact (newer h3 h4 h1 h2).elim
      | succ j => exact congrArg Nat.succ (W.nd i j p d d' h1 h2 h3 h4)
end

theorem WfO.making {K : PySem.W.Frag} {H1 : Hp} {O : List Addr} {G : List Sl} {S : List (Option V)} {C y dx : Addr} (W : Wf K H1 O G S H1) (ny : H1 y = none) (ndx : H1 dx = none) (ne : dx ≠ y) :
    Wf K H1 O (.ow (.obj C [] []) :: G) (some (.ref y) :: S) (upd (upd H1 dx (.own y)) y (.ins C dx [])) := by
  obtain ⟨O', W⟩ := W
  exact ⟨_, W.pushOw (Ex.tr (Ex.new ndx) (Ex.new ((upd_ne (Ne.symm ne)).trans ny))) ny upd_same ⟨rfl, rfl, rfl⟩⟩
section
variable {X : Cx} {H0 : Hp} {Oc : List Addr} {Γ : List Sl} {e a b c o : Expr} {es : List Expr} {s s0 s1 s2 : Sl} {ss : List Sl} {d d1 d2 : D} {ds ds1 ds2 : List D} {i j : Int} {pos p2 p apos : Pos} {x m : Str} {k : Nat} {ps : List Str} {P : Pm} {C : Addr} {ns : List Str}
theorem passLN {X : Cx} : Passes (L2N.CX X.prog X.w) X E0 := fun _ _ _ _ _ _ _ c => by
  obtain ⟨_, _, _, _, _, _, _, _, _, _, _, _, z⟩ := c
  exact z.elim
/-- the same, the argument list pushed below what stands -/
theorem ev_call (F : FnG X.prog X.w X.K X.mg X.base x k ps P) (hr : Room k X.A) (ha : Ea X H0 Oc Γ (e :: es) ss) (hp : P (ss.map Sl.arg) (.ret s)) (hs : s.res = true := by rfl) (hg : Gl X x := by rfl) (hdb : (x == ("__debug__" : Str)) = false := by decide)
    (he : starEach (e :: es) X.env = (false, eval e X.env) :: starEach es X.env := by rfl) (hpl : (backTo pos (starEach es X.env)).any (·.1) = false := by rfl) : Ev X H0 Oc Γ (.Call (.Name x p) (e :: es) [] pos) s := fun Δ τ σ H Q hl W q => by
  obtain ⟨f, fd, F, hm, hk, hb⟩ := F.ex
  refine wpE.of (pe_call (E := E0) F hr hg hm hk hb .nil passLN pa_wp hdb he hpl) ?_
  refine ha Δ τ σ H _ hl W fun vs O H1 W1 ok => ?_
  rw [List.append_nil]
  exact ⟨O, _, _, hp, W1.callee ok, fun v H' W2 => q v H' (W1.after W2 hs)⟩
theorem ev_meth {pl : Sem Bool} (c : Cls X.K C) (F : MtG X.prog X.w X.K X.mg X.base C m k ps P) (hr : Room k X.A) (ho : Ev X H0 Oc Γ o s0) (hd : s0.dat = some (.obj C ns ds)) (hn : m ∉ ns) (ha : Ea X H0 Oc Γ (e :: es) ss) (hp : P (s0.arg :: ss.map Sl.arg) (.ret s)) (hs : s.res = true := by rfl)
    (hst : starEach (e :: es) X.env = (false, eval e X.env) :: starEach es X.env := by rfl) (hpl : (backTo pos (starEach es X.env)).any (·.1) = false := by rfl)
    (ht : eval (.Call (.Attribute o m apos) (e :: es) [] pos) X.env = (do
      let ov ← eval o X.env
      standAt apos.atName
      let (f, first) ← holding [ov] (getMethod ov m pl)
      callWith pos f first (backTo pos (starEach (e :: es) X.env)) (backToKw pos (keywordEach [] X.env))) := by rfl) : Ev X H0 Oc Γ (.Call (.Attribute o m apos) (e :: es) [] pos) s := fun Δ τ σ H Q hl W q => by
  obtain ⟨f, fd, F, hm, hb⟩ := F.ex
  refine wpE.of (pe_meth (pl := pl) (E := E0) pe_wp c hm F hr hb .nil passLN pa_wp hst hpl ht) ?_
  refine ho Δ τ σ H _ hl W fun v H1 W1 => ?_
  obtain ⟨O1, W1'⟩ := id W1
  obtain ⟨r, dx, fs, rfl, h2, h3, h4⟩ := (W1'.head.b W1'.ex hd : RepB _ _ _ (.obj C ns ds) v)
  refine ⟨r, dx, fs, rfl, h2, ?_, ?_⟩
  · cases q : fs.lookup m with
    | none => rfl
    | some z =>
      refine absurd ?_ hn
      rw [← h3]
      exact List.mem_map_of_mem (f := (·.1)) (PySem.mem_of_lookup q)
  · refine ha (s0 :: Δ) (some (.ref r) :: τ) σ H1 _ (by simp [hl]) W1 fun vs O H2 W2 ok => ?_
    rw [List.append_nil]
    exact ⟨O, s0.arg :: ss.map Sl.arg, _, hp, W2.callee (ss := s0 :: ss) (vs := .ref r :: vs) ⟨_, _, rfl, W2.head, ok⟩, fun v H' W3 => q v H' (W2.pop.after W3 hs)⟩
theorem ev_meth0 {pl : Sem Bool} (c : Cls X.K C) (F : MtG X.prog X.w X.K X.mg X.base C m k ps P) (hr : Room k X.A) (ho : Ev X H0 Oc Γ o s0) (hd : s0.dat = some (.obj C ns ds)) (hn : m ∉ ns) (hp : P [s0.arg] (.ret s)) (hs : s.res = true := by rfl)
    (ht : eval (.Call (.Attribute o m apos) [] [] pos) X.env = (do
      let ov ← eval o X.env
      standAt apos.atName
      let (f, first) ← holding [ov] (getMethod ov m pl)
      callWith pos f first (backTo pos (starEach [] X.env)) (backToKw pos (keywordEach [] X.env))) := by rfl) : Ev X H0 Oc Γ (.Call (.Attribute o m apos) [] [] pos) s := fun Δ τ σ H Q hl W q => by
  obtain ⟨f, fd, F, hm, hb⟩ := F.ex
  refine wpE.of (pe_meth0 (pl := pl) (E := E0) pe_wp c hm F hr hb .nil passLN ht) ?_
  refine ho Δ τ σ H _ hl W fun v H1 ⟨O1, W1'⟩ => ?_
  obtain ⟨r, dx, fs, rfl, h2, h3, h4⟩ := (W1'.head.b W1'.ex hd : RepB _ _ _ (.obj C ns ds) v)
  refine ⟨r, dx, fs, rfl, h2, ?_, ?_⟩
  · cases q : fs.lookup m with
    | none => rfl
    | some z =>
      refine absurd ?_ hn
      rw [← h3]
      exact List.mem_map_of_mem (f := (·.1)) (PySem.mem_of_lookup q)
  · exact ⟨O1, [s0.arg], _, hp, W1'.callee (ss := [s0]) (vs := [.ref r]) ⟨_, _, rfl, W1'.head, rfl⟩, fun v H' W3 => q v H' (W1'.pop.after W3 hs)⟩
theorem ev_prop (c : Cls X.K C) (F : PrG X.prog X.w X.K X.mg X.base C m k ps P) (hr : Room (k + 1) X.A) (ho : Ev X H0 Oc Γ o s0) (hd : s0.dat = some (.obj C ns ds)) (hp : P [s0.arg] (.ret s)) (hs : s.res = true := by rfl)
    (hab : attributeBase o m X.env (eval o X.env) = eval o X.env := by rfl) : Ev X H0 Oc Γ (.Attribute o m pos) s := fun Δ τ σ H Q hl W q => by
  obtain ⟨p, f, fd, F, hm, hb⟩ := F.ex
  refine wpE.of (pe_prop (E := E0) pe_wp c hm F hr hb .nil (by exact passLN) hab) ?_
  refine ho Δ τ σ H _ hl W fun v H1 ⟨O1, W1'⟩ => ?_
  obtain ⟨r, dx, fs, rfl, h2, h3, h4⟩ := (W1'.head.b W1'.ex hd : RepB _ _ _ (.obj C ns ds) v)
  exact ⟨r, dx, fs, rfl, h2, O1, [s0.arg], _, hp, W1'.callee (ss := [s0]) (vs := [.ref r]) ⟨_, _, rfl, W1'.head, rfl⟩, fun v H' W3 => q v H' (W1'.pop.after W3 hs)⟩
/-- a field of an instance -/
theorem Reps.look {K : PySem.W.Frag} {H : Hp} : ∀ {fs : List (Str × V)} {ds : List D} {f : Str} {d : D}, Reps K H ds (fs.map (·.2)) → ((fs.map (·.1)).zip ds).lookup f = some d → ∃ v, fs.lookup f = some v ∧ Rep K H d v
  | [], [], _, _, _, h => by simp at h
  | [], _ :: _, _, _, _, h => by simp at h
  | _ :: _, [], _, _, _, h => by simp at h
  | (g, w) :: fs, d' :: ds, f, d, ⟨v, us, h1, h2, h3⟩, h => by
    have e1 := (List.cons.inj h1).1
    have e2 := (List.cons.inj h1).2
    simp only [List.map_cons, List.zip_cons_cons, List.lookup_cons] at h ⊢
    cases q : f == g with
    | true =>
      rw [q] at h
      have h' := Option.some.inj h
      subst h'
      exact ⟨w, by simp, by rw [show w = v from e1]; exact h2⟩
    | false =>
      rw [q] at h
      simp only [q]
      exact Reps.look (by rw [show fs.map (·.2) = us from e2]; exact h3) h
theorem ev_fld {f : Str} (c : Cls X.K C) (n : NoAttr X.K C f) (ha : Ev X H0 Oc Γ a (.bw (.obj C ns ds))) (hi : (ns.zip ds).lookup f = some d) (hab : attributeBase a f X.env (eval a X.env) = eval a X.env := by rfl) : Ev X H0 Oc Γ (.Attribute a f pos) (.va d) := fun Δ τ σ H Q hl W q =>
  wpE.of (pe_fld pe_wp hab) (ha Δ τ σ H _ hl W fun v H' ⟨O, W'⟩ => by
    obtain ⟨u, g1, r, dx, fs, rfl, h2, h3, h4⟩ := W'.head
    cases g1
    subst h3
    obtain ⟨z, hz, rz⟩ := h4.look hi
    exact ⟨r, C, dx, fs, z, rfl, h2, c, n, hz, q z H' ⟨O, W'.pop.push ⟨z, rfl, rz⟩ fun _ z => nomatch z⟩⟩)
/-- C(e, ..) -/
theorem ev_make (F : ClG X.prog X.w X.K X.mg X.base x C k ps P) (hr : Room (k + 1) X.A) (ha : Ea X H0 Oc Γ (e :: es) ss) (hp : P (ss.map Sl.arg) (.ret (.ow d))) (hg : Gl X x := by rfl) (hdb : (x == ("__debug__" : Str)) = false := by decide)
    (he : starEach (e :: es) X.env = (false, eval e X.env) :: starEach es X.env := by rfl) (hpl : (backTo pos (starEach es X.env)).any (·.1) = false := by rfl) : Ev X H0 Oc Γ (.Call (.Name x p) (e :: es) [] pos) (.ow d) := fun Δ τ σ H Q hl W q => by
  obtain ⟨f, fd, F, hM, hm, hb⟩ := F.ex
  refine wpE.of (pe_make (E := E0) hM F hr hg hm hb .nil passLN pa_wp hdb he hpl) ?_
  refine ha Δ τ σ H _ hl W fun vs O H1 W1 ok => ?_
  intro y dx ny ndx ne
  rw [List.append_nil]
  exact ⟨H1, O, _, _, _, _, hp, rfl, WfO.making (W1.callee ok) ny ndx ne, fun H' W2 => ⟨rfl, q _ H' (W1.after W2 rfl)⟩⟩
/-! ### what leaves an expression: an exception -/
def Exx (X : Cx) (W : WX) (H0 : Hp) (Oc : List Addr) (Γ : List Sl) (e : Expr) (C : Addr) (ns : List Str) (ds : List D) : Prop := ∀ (Δ : List Sl) (τ : List (Option V)) (σ : L2.St) (H : Hp) (Q : VK), τ.length = Δ.length → Wf X.K H0 Oc (Δ ++ Γ) (τ ++ σ) H →
  (∀ d H', Wf X.K H0 Oc (.va (.xd ns ds) :: (Δ ++ Γ)) (some (.ref d) :: (τ ++ σ)) H' → W (.ref C) (some d) σ H') → wpE X e σ H Q
theorem Wf.only {K : PySem.W.Frag} {G : List Sl} {S : List (Option V)} {H : Hp} {y : Option V} (W : Wf K H0 Oc (s :: G) (y :: S) H) : Wf K H0 Oc [s] [y] H := by
  obtain ⟨O, W⟩ := W
  refine ⟨O, W.sub, W.new, W.old, W.live, W.ex, rfl, fun i s' x h1 h2 => ?_, ?_⟩
  · cases i with
    | zero => exact W.ok 0 s' x h1 h2
    | succ i => simp at h1
  · intro i j p d d' h1 h2 h3 h4
    cases i with
    | zero =>
      cases j with
      | zero => rfl
      | succ j => simp at h3
    | succ i => simp at h1
theorem exx_call {W : WX} {C : Addr} {ns : List Str} {ds : List D} (tk : L2N.Takes X W) (F : FnG X.prog X.w X.K X.mg X.base x k ps P) (hr : Room k X.A) (ha : Ea X H0 Oc Γ (e :: es) ss) {Γe : Option (List Sl)} (hp : P (ss.map Sl.arg) (.exc C ns ds Γe)) (hg : Gl X x := by rfl) (hdb : (x == ("__debug__" : Str)) = false := by decide)
    (he : starEach (e :: es) X.env = (false, eval e X.env) :: starEach es X.env := by rfl) (hpl : (backTo pos (starEach es X.env)).any (·.1) = false := by rfl) : Exx X W H0 Oc Γ (.Call (.Name x p) (e :: es) [] pos) C ns ds := fun Δ τ σ H Q hl W' q => by
  obtain ⟨f, fd, F, hm, hk, hb⟩ := F.ex
  refine wpE.of (pe_callS (E := WE W) F hr hg hm hk hb (fun σ => L2N.passAt tk σ) pa_wp hdb he hpl) ?_
  refine ha Δ τ σ H _ hl W' fun vs O H1 W1 ok => ?_
  exact ⟨O, _, _, hp, W1.callee ok, fun d H' W2 => q d H' (W1.after W2 rfl)⟩
end
end Y

namespace Y
open PySem L2

/-! ## statements -/
def stab (G : List Sl) : Bool := G.all fun s => match s with | .bw _ => false | _ => true
def xWf (K : PySem.W.Frag) (H0 : Hp) (Oc : List Addr) (Δ : List Sl) (τ : List (Option V)) (ns : List Str) (ds : List D) (d : Addr) (σ : L2.St) (H : Hp) : Option (List Sl) → Prop
  | none => Wf K H0 Oc [.va (.xd ns ds)] [some (.ref d)] H
  | some Γ => Wf K H0 Oc (.va (.xd ns ds) :: (Δ ++ Γ)) (some (.ref d) :: (τ ++ σ)) H
section
variable (X : Cx) (W : WX) (H0 : Hp) (Oc : List Addr)
def Sat (Δ : List Sl) (τ : List (Option V)) (D : Ends) : Out → Prop
  | .nx Γ => ∀ σ H, Wf X.K H0 Oc (Δ ++ Γ) (τ ++ σ) H → D.nx σ H
  | .brk Γ => ∀ σ H, Wf X.K H0 Oc (Δ ++ Γ) (τ ++ σ) H → D.bk σ H
  | .cnt Γ => ∀ σ H, Wf X.K H0 Oc (Δ ++ Γ) (τ ++ σ) H → D.ct σ H
  | .ret s => ∀ v H, Wf X.K H0 Oc [s] [some v] H → D.rt v H
  | .exc C ns ds Γe => ∀ d σ H, xWf X.K H0 Oc Δ τ ns ds d σ H Γe → W (.ref C) (some d) σ H
def Sds (Γ : List Sl) (st : List Stmt) (o : Out) : Prop := ∀ (Δ : List Sl) (τ : List (Option V)) (σ : L2.St) (H : Hp) (D : Ends), τ.length = Δ.length → stab Δ = true → Wf X.K H0 Oc (Δ ++ Γ) (τ ++ σ) H → Sat X W H0 Oc Δ τ D o → wpSs X st D σ H
/-- a value is assigned to a target -/
def wpG (X : Cx) (tg : Expr) : TG := fun v σ H Q => ∀ (pins : List (Addr × Obj)) (s : Shared) (u : Value), Inv X pins σ H s → RelV v u → wpAny (model X.prog X.w) X.A (assign tg X.env u) (fun _ s' => ∃ σ' H', Inv X pins σ' H' s' ∧ Q σ' H') X.xe s
def Tg (tg : Expr) (Γ : List Sl) (s : Sl) (Γ' : List Sl) : Prop := ∀ (Δ : List Sl) (τ : List (Option V)) (σ : L2.St) (H : Hp) (v : V) (Q : L2.St → Hp → Prop), τ.length = Δ.length → stab Δ = true → Wf X.K H0 Oc (s :: (Δ ++ Γ)) (some v :: (τ ++ σ)) H →
  (∀ σ' H', Wf X.K H0 Oc (Δ ++ Γ') (τ ++ σ') H' → Q σ' H') → wpG X tg v σ H Q
end
theorem pg_wp {X : Cx} {tg : Expr} : PG X tg (wpG X tg) := ⟨fun pins s σ H v u Q I r h => h pins s u I r⟩
theorem wpG.of {X : Cx} {tg : Expr} {g : TG} {v : V} {σ : L2.St} {H : Hp} {Q : L2.St → Hp → Prop} (h : PG X tg g) (q : g v σ H Q) : wpG X tg v σ H Q := fun pins s u I r => h.run pins s σ H v u Q I r q
def Out.exit : Out → Bool
  | .nx _ => false
  | _ => true
/-- less is known -/
inductive Sub : List Sl → List Sl → Prop where
  | nil : Sub [] []
  | no {s : Sl} {G G' : List Sl} : Sub G G' → Sub (s :: G) (.no :: G')
  | eq {s : Sl} {G G' : List Sl} : Sub G G' → Sub (s :: G) (s :: G')
theorem Sub.refl : ∀ {G : List Sl}, Sub G G
  | [] => .nil
  | _ :: _ => .eq Sub.refl
theorem Sub.len : ∀ {G G' : List Sl}, Sub G G' → G.length = G'.length
  | _, _, .nil => rfl
  | _, _, .no h => congrArg Nat.succ h.len
  | _, _, .eq h => congrArg Nat.succ h.len
theorem Sub.at : ∀ {G G' : List Sl} {i : Nat} {s : Sl}, Sub G G' → G'[i]? = some s → s = .no ∨ G[i]? = some s
  | _, _, _, _, .nil, h => by simp at h
  | _, _, 0, _, .no _, h => .inl (Option.some.inj h).symm
  | _, _, 0, _, .eq _, h => .inr h
  | _, _, i + 1, _, .no z, h => Sub.at (i := i) z h
  | _, _, i + 1, _, .eq z, h => Sub.at (i := i) z h
theorem Sub.app : ∀ {Δ G G' : List Sl}, Sub G G' → Sub (Δ ++ G) (Δ ++ G')
  | [], _, _, h => h
  | _ :: _, _, _, h => .eq (Sub.app h)
section
variable {K : PySem.W.Frag} {H0 H : Hp} {O Oc : List Addr} {G G' Δ Γ Γ' : List Sl} {S : List (Option V)} {s : Sl}
theorem Wf.sub (W : Wf K H0 Oc G S H) (h : Sub G G') : Wf K H0 Oc G' S H := by
  obtain ⟨O, W⟩ := W
  refine ⟨O, W.sub, W.new, W.old, W.live, W.ex, W.len.trans h.len, fun i s x h1 h2 => ?_, fun i j p d d' h1 h2 h3 h4 => ?_⟩
  · rcases h.at h1 with e | e
    · rw [e]; trivial
    · exact W.ok i s x e h2
  · rcases h.at h1 with e | e
    · exact nomatch e
    · rcases h.at h3 with e' | e'
      · exact nomatch e'
      · exact W.nd i j p d d' e h2 e' h4
/-- a name is bound to the value on top -/
theorem WfO.set {v : V} {n : Nat} {τ : List (Option V)} {σ : L2.St} (hl : τ.length = Δ.length) (W : WfO K H0 Oc O (s :: (Δ ++ Γ)) (some v :: (τ ++ σ)) H) : WfO K H0 Oc O (Δ ++ Γ.set n s) (τ ++ σ.set n (some v)) H := by
  have hlen : σ.length = Γ.length := by
    have := W.len
    simp only [List.length_cons, List.length_append] at this
    omega
  have old : ∀ i, i ≠ Δ.length + n → (Δ ++ Γ.set n s)[i]? = (Δ ++ Γ)[i]? ∧ (τ ++ σ.set n (some v))[i]? = (τ ++ σ)[i]? := fun i hi => by
    by_cases h : i < Δ.length
    · rw [List.getElem?_append_left h, List.getElem?_append_left h, List.getElem?_append_left (by omega), List.getElem?_append_left (by omega)]
      exact ⟨rfl, rfl⟩
    · rw [List.getElem?_append_right (by omega), List.getElem?_append_right (by omega), List.getElem?_append_right (by omega), List.getElem?_append_right (by omega), List.getElem?_set_ne (by omega), List.getElem?_set_ne (by omega)]
      exact ⟨rfl, rfl⟩
  have new : ∀ i s' x, i = Δ.length + n → (Δ ++ Γ.set n s)[i]? = some s' → (τ ++ σ.set n (some v))[i]? = some x → s' = s ∧ x = some v := fun i s' x hi h1 h2 => by
    subst hi
    rw [List.getElem?_append_right (by omega)] at h1
    rw [List.getElem?_append_right (by omega), hl] at h2
    have e : Δ.length + n - Δ.length = n := by omega
    rw [e] at h1 h2
    have hn : n < Γ.length := by
      have := (List.getElem?_eq_some_iff.mp h1).1
      simpa using this
    rw [List.getElem?_set_self hn] at h1
    rw [List.getElem?_set_self (by omega)] at h2
    exact ⟨(Option.some.inj h1).symm, (Option.some.inj h2).symm⟩
  refine ⟨W.sub, W.new, W.old, W.live, W.ex, by simp [hl, hlen], fun i s' x h1 h2 => ?_, fun i j p d d' h1 h2 h3 h4 => ?_⟩
  · by_cases hi : i = Δ.length + n
    · obtain ⟨e1, e2⟩ := new i s' x hi h1 h2
      rw [e1, e2]
      exact W.head
    · obtain ⟨e1, e2⟩ := old i hi
      exact W.ok (i + 1) s' x (e1 ▸ h1) (e2 ▸ h2)
  · by_cases hi : i = Δ.length + n
    · obtain ⟨e1, e2⟩ := new i _ _ hi h1 h2
      by_cases hj : j = Δ.length + n
      · omega
      · obtain ⟨f1, f2⟩ := old j hj
        have := W.nd 0 (j + 1) p d d' (by rw [e1]; rfl) (by rw [e2]; rfl) (f1 ▸ h3) (f2 ▸ h4)
        omega
    · obtain ⟨e1, e2⟩ := old i hi
      by_cases hj : j = Δ.length + n
      · obtain ⟨f1, f2⟩ := new j _ _ hj h3 h4
        have := W.nd (i + 1) 0 p d d' (e1 ▸ h1) (e2 ▸ h2) (by rw [f1]; rfl) (by rw [f2]; rfl)
        omega
      · obtain ⟨f1, f2⟩ := old j hj
        exact Nat.succ.inj (W.nd (i + 1) (j + 1) p d d' (e1 ▸ h1) (e2 ▸ h2) (f1 ▸ h3) (f2 ▸ h4))
/-- an own object is changed -/
theorem WfO.mut {i : Nat} {p : Addr} {d d' : D} {o' : HO} (W : WfO K H0 Oc O G S H) (hb : stab G = true) (h1 : G[i]? = some (.ow d)) (h2 : S[i]? = some (some (.ref p))) (ho : RepH K (cut H O) d' p o') : WfO K H0 Oc O (G.set i (.ow d')) S (upd H p o') := by
  obtain ⟨hO, h0, o, hp, hr⟩ := W.owner h1 h2
  have hi : i < G.length := (List.getElem?_eq_some_iff.mp h1).1
  have nt : ∀ vs, H p ≠ some (.tup vs) := fun vs z => by
    rw [hp] at z
    exact hr.ntup vs (Option.some.inj z)
  refine ⟨W.sub, W.new, W.old, fun a z q => ?_, fun a u z => ?_, by simpa using W.len, fun j s x h3 h4 => ?_, fun j k q d1 d2 h3 h4 h5 h6 => ?_⟩
  · by_cases e : a = p
    · rw [e, upd_same] at q; cases q
    · rw [upd_ne e] at q; exact W.live a z q
  · rw [upd_ne (ne_of_none z h0)]
    exact W.ex a u z
  · by_cases e : j = i
    · subst e
      rw [List.getElem?_set_self hi] at h3
      cases h3
      rw [h2] at h4
      cases h4
      exact ⟨p, o', rfl, hO, h0, upd_same, by rw [cut_upd hO nt ho.ntup]; exact ho⟩
    · rw [List.getElem?_set_ne (Ne.symm e)] at h3
      have ok := W.ok j s x h3 h4
      cases s with
      | no => trivial
      | va d => obtain ⟨v, g1, g2⟩ := ok; exact ⟨v, g1, by rw [cut_upd hO nt ho.ntup]; exact g2⟩
      | br d => obtain ⟨v, g1, g2⟩ := ok; exact ⟨v, g1, by rw [cut_upd hO nt ho.ntup]; exact g2⟩
      | bw d =>
        have := List.all_eq_true.mp hb _ (List.mem_of_getElem? h3)
        exact absurd this Bool.false_ne_true
      | ow d1 =>
        obtain ⟨q, o1, g1, g2, g3, g4, g5⟩ := ok
        subst g1
        have hne : q ≠ p := fun z => by
          subst z
          exact e (W.nd j i q d1 d h3 h4 h1 h2)
        exact ⟨q, o1, rfl, g2, g3, (upd_ne hne).trans g4, by rw [cut_upd hO nt ho.ntup]; exact g5⟩
  · have key : ∀ {j : Nat} {d1 : D}, (G.set i (.ow d'))[j]? = some (.ow d1) → ∃ d2, G[j]? = some (.ow d2) := fun {j d1} h => by
      by_cases e : j = i
      · exact ⟨d, by rw [e]; exact h1⟩
      · rw [List.getElem?_set_ne (Ne.symm e)] at h
        exact ⟨d1, h⟩
    obtain ⟨e1, g1⟩ := key h3
    obtain ⟨e2, g2⟩ := key h5
    exact W.nd j k q e1 e2 g1 h4 g2 h6
theorem stab_app : stab (Δ ++ Γ) = (stab Δ && stab Γ) := by unfold stab; rw [List.all_append]
theorem stab_cons : stab (s :: Γ) = (stab [s] && stab Γ) := stab_app (Δ := [s])
/-- .. one that a name holds -/
theorem WfO.mutN {n : Nat} {p : Addr} {d d' : D} {o' : HO} {τ : List (Option V)} {σ : L2.St} (hl : τ.length = Δ.length) (W : WfO K H0 Oc O (Δ ++ Γ) (τ ++ σ) H) (hΔ : stab Δ = true) (hΓ : stab Γ = true) (h1 : Γ[n]? = some (.ow d)) (h2 : σ[n]? = some (some (.ref p))) (ho : RepH K (cut H O) d' p o') :
    WfO K H0 Oc O (Δ ++ Γ.set n (.ow d')) (τ ++ σ) (upd H p o') := by
  have e1 : (Δ ++ Γ)[Δ.length + n]? = some (.ow d) := by
    rw [List.getElem?_append_right (by omega)]
    simpa using h1
  have e2 : (τ ++ σ)[Δ.length + n]? = some (some (.ref p)) := by
    rw [List.getElem?_append_right (by omega)]
    have : Δ.length + n - τ.length = n := by omega
    rw [this]
    exact h2
  have := W.mut (by rw [stab_app, hΔ, hΓ]; rfl) e1 e2 ho
  rw [List.set_append_right _ _ (by omega)] at this
  simpa using this
end
section
variable {X : Cx} {W : WX} {H0 : Hp} {Oc : List Addr} {Γ Γ1 Γ' : List Sl} {e a b c o : Expr} {es : List Expr} {rest body els : List Stmt} {s s0 s1 s2 : Sl} {ss : List Sl} {d d1 d2 : D} {ds ds1 ds2 : List D} {i j : Int} {pos p2 p apos : Pos} {x m : Str} {out o1 : Out} {n : Nat} {q : Bool}
theorem sds_nil : Sds X W H0 Oc Γ [] (.nx Γ) := fun Δ τ σ H D hl hs w k => wpSs.of pss_nil (k σ H w)
theorem sds_sub (h : Sds X W H0 Oc Γ1 rest out) (hs : Sub Γ Γ1) : Sds X W H0 Oc Γ rest out := fun Δ τ σ H D hl st w k => h Δ τ σ H D hl st (w.sub hs.app) k
/-- an own object that nobody changes any more -/
theorem sds_freeze (n : Nat) (h : Γ[n]? = some (.ow d)) (k : Sds X W H0 Oc (Γ.set n (.va d)) rest out) : Sds X W H0 Oc Γ rest out := fun Δ τ σ H D hl st w kk => by
  refine k Δ τ σ H D hl st ?_ kk
  obtain ⟨O, w⟩ := w
  obtain ⟨y, hy, p, o, rfl, h2, h3, h4, h5⟩ := slot_of hl w h
  have hn : n < Γ.length := (List.getElem?_eq_some_iff.mp h).1
  have e1 : (Δ ++ Γ)[Δ.length + n]? = some (.ow d) := by
    rw [List.getElem?_append_right (by omega)]
    simpa using h
  have e2 : (τ ++ σ)[Δ.length + n]? = some (some (.ref p)) := by
    rw [List.getElem?_append_right (by omega)]
    have : Δ.length + n - τ.length = n := by omega
    rw [this]
    exact hy
  have sub : ∀ a ∈ O.filter (· ≠ p), a ∈ O := fun a z => (List.mem_filter.mp z).1
  have npc : p ∉ Oc := fun z => w.old p z h3
  have key : ∀ j s', (Δ ++ Γ.set n (.va d))[j]? = some s' → (j = Δ.length + n ∧ s' = .va d) ∨ (j ≠ Δ.length + n ∧ (Δ ++ Γ)[j]? = some s') := fun j s' g => by
    have g' : ((Δ ++ Γ).set (Δ.length + n) (.va d))[j]? = some s' := by
      rw [List.set_append_right _ _ (by omega)]
      simpa using g
    by_cases ej : j = Δ.length + n
    · subst ej
      rw [List.getElem?_set_self (by simp; omega)] at g'
      exact .inl ⟨rfl, (Option.some.inj g').symm⟩
    · rw [List.getElem?_set_ne (Ne.symm ej)] at g'
      exact .inr ⟨ej, g'⟩
  refine ⟨O.filter (· ≠ p), fun a z => List.mem_filter.mpr ⟨w.sub a z, by simpa using fun q : a = p => npc (q ▸ z)⟩, fun a z => w.new a (sub a z), w.old, fun a z => w.live a (sub a z), w.ex, by simpa using w.len, fun j s' x g1 g2 => ?_, fun j k q d1 d2 g1 g2 g3 g4 => ?_⟩
  · rcases key j s' g1 with ⟨ej, es⟩ | ⟨ej, g1'⟩
    · subst ej
      subst es
      rw [e2] at g2
      cases g2
      refine ⟨.ref p, rfl, RepH.rep (RepH.mono (cut_sub sub) h5) ?_⟩
      rw [cut_out (by simp)]
      exact h4
    · refine SlOk.less (fun d' hs hx => ?_) (w.ok j s' x g1' g2)
      subst hs
      exact ej (w.nd j (Δ.length + n) p d' d g1' (hx ▸ g2) e1 e2)
  · rcases key j _ g1 with ⟨_, es⟩ | ⟨_, g1'⟩
    · exact nomatch es
    · rcases key k _ g3 with ⟨_, es⟩ | ⟨_, g3'⟩
      · exact nomatch es
      · exact w.nd j k q d1 d2 g1' g2 g3' g4
theorem tg_name {pos' : Pos} (n : Nat) (hN : X.N.Nodup) (hi : X.N[n]? = some x) (hx : Loc X.env.scope x) (hf : X.fn x = true ∨ X.env.scope.names.lookup x = some .local) : Tg X H0 Oc (.Name x pos') Γ s (Γ.set n s) :=
  fun Δ τ σ H v Q hl st ⟨O, w⟩ k => wpG.of (pg_name hN hi hx hf) (k _ H ⟨O, w.set hl⟩)
theorem sds_set {pos' : Pos} (n : Nat) (he : Ev X H0 Oc Γ e s) (hr : Sds X W H0 Oc (Γ.set n s) rest out) (hN : X.N.Nodup) (hi : X.N[n]? = some x) (hx : Loc X.env.scope x) (hs : swapsWith e (some (.Name x pos')) pos.line X.env = pure false) (hf : X.fn x = true ∨ X.env.scope.names.lookup x = some .local) :
    Sds X W H0 Oc Γ (.Assign [.Name x pos'] e pos :: rest) out := fun Δ τ σ H D hl st w k =>
  wpSs.of (pss_cons (ps_set hN hi hx pe_wp hs hf) pss_wp) (he Δ τ σ H _ hl w fun v H1 ⟨O, w1⟩ => hr Δ τ _ H1 D hl st ⟨O, w1.set hl⟩ k)
theorem sds_ret (he : Ev X H0 Oc Γ e s) : Sds X W H0 Oc Γ (.Return (some e) pos :: rest) (.ret s) := fun Δ τ σ H D hl st w k =>
  wpSs.of (pss_cons (ps_ret pe_wp) pss_wp) (he Δ τ σ H _ hl w fun v H1 w1 => k v H1 w1.only)
theorem sds_retN : Sds X W H0 Oc Γ (.Return none pos :: rest) (.ret (.va .non)) := fun Δ τ σ H D hl st ⟨O, w⟩ k =>
  wpSs.of (pss_cons ps_retN pss_wp) (k .non H (Wf.only ⟨O, w.flat rfl (show Rep X.K H .non .non from rfl)⟩))
theorem sds_pass (hr : Sds X W H0 Oc Γ rest out) : Sds X W H0 Oc Γ (.Pass pos :: rest) out := fun Δ τ σ H D hl st w k => wpSs.of (pss_cons ps_pass pss_wp) (hr Δ τ σ H D hl st w k)
theorem sds_brk : Sds X W H0 Oc Γ (.Break pos :: rest) (.brk Γ) := fun Δ τ σ H D hl st w k => wpSs.of (pss_cons ps_break pss_wp) (k σ H w)
theorem sds_cnt : Sds X W H0 Oc Γ (.Continue pos :: rest) (.cnt Γ) := fun Δ τ σ H D hl st w k => wpSs.of (pss_cons ps_continue pss_wp) (k σ H w)
theorem sds_expr (he : Ev X H0 Oc Γ e s) (hr : Sds X W H0 Oc Γ rest out) (hs : swapsWith e none pos.line X.env = pure false := by rfl) : Sds X W H0 Oc Γ (.Expr e pos :: rest) out := fun Δ τ σ H D hl st w k =>
  wpSs.of (pss_cons (ps_expr pe_wp hs) pss_wp) (he Δ τ σ H _ hl w fun v H1 w1 => hr Δ τ σ H1 D hl st w1.pop k)
/-- how a sub-block's ends reach the outer ones -/
theorem Sat.exit {Δ : List Sl} {τ : List (Option V)} {D : Ends} {N : L2.St → Hp → Prop} (hx : out.exit = true) (h : Sat X W H0 Oc Δ τ D out) : Sat X W H0 Oc Δ τ { D with nx := N } out := by
  cases out <;> first | exact absurd hx Bool.false_ne_true | exact h
/-- if c: something that leaves; rest -/
theorem sds_ifx (hc : Et X H0 Oc Γ c q) (h1 : q = true → Sds X W H0 Oc Γ body out ∧ out.exit = true) (h2 : q = false → Sds X W H0 Oc Γ rest out) : Sds X W H0 Oc Γ (.If c body [] pos :: rest) out := fun Δ τ σ H D hl st w k =>
  wpSs.of (pss_cons (ps_if pt_wp pss_wp pss_nil) pss_wp) (hc Δ τ σ H _ hl w fun H1 w1 => by
    cases q with
    | true => exact (h1 rfl).1 Δ τ σ H1 _ hl st w1 (k.exit (h1 rfl).2)
    | false => exact h2 rfl Δ τ σ H1 D hl st w1 k)
/-- if c: a else: b; both go on -/
theorem sds_ifn (Γ1 : List Sl) (hc : Et X H0 Oc Γ c q) (h1 : q = true → Sds X W H0 Oc Γ body (.nx Γ1)) (h2 : q = false → Sds X W H0 Oc Γ els (.nx Γ1)) (hr : Sds X W H0 Oc Γ1 rest out) : Sds X W H0 Oc Γ (.If c body els pos :: rest) out := fun Δ τ σ H D hl st w k =>
  wpSs.of (pss_cons (ps_if pt_wp pss_wp pss_wp) pss_wp) (hc Δ τ σ H _ hl w fun H1 w1 => by
    cases q with
    | true => exact h1 rfl Δ τ σ H1 _ hl st w1 fun σ' H' w' => hr Δ τ σ' H' D hl st w' k
    | false => exact h2 rfl Δ τ σ H1 _ hl st w1 fun σ' H' w' => hr Δ τ σ' H' D hl st w' k)
/-- the general form: each way tells its own end -/
theorem sds_if (hc : Et X H0 Oc Γ c q) (h1 : q = true → ∃ o1, Sds X W H0 Oc Γ body o1 ∧ (match o1 with | .nx Γ1 => Sds X W H0 Oc Γ1 rest out | o1 => o1 = out))
    (h2 : q = false → ∃ o1, Sds X W H0 Oc Γ els o1 ∧ (match o1 with | .nx Γ1 => Sds X W H0 Oc Γ1 rest out | o1 => o1 = out)) : Sds X W H0 Oc Γ (.If c body els pos :: rest) out := fun Δ τ σ H D hl st w k =>
  wpSs.of (pss_cons (ps_if pt_wp pss_wp pss_wp) pss_wp) (hc Δ τ σ H _ hl w fun H1 w1 => by
    have fin : ∀ {st' : List Stmt} {o1 : Out}, Sds X W H0 Oc Γ st' o1 → (match o1 with | .nx Γ1 => Sds X W H0 Oc Γ1 rest out | o1 => o1 = out) → wpSs X st' { D with nx := fun σ H => wpSs X rest D σ H } σ H1 := fun {st' o1} g1 g2 => by
      refine g1 Δ τ σ H1 _ hl st w1 ?_
      cases o1 with
      | nx Γ1 => exact fun σ' H' w' => g2 Δ τ σ' H' D hl st w' k
      | ret s => subst g2; exact k
      | brk s => subst g2; exact k
      | cnt s => subst g2; exact k
      | exc C ns ds Γe => subst g2; exact k
    cases q with
    | true =>
      obtain ⟨o1, g1, g2⟩ := h1 rfl
      exact fin g1 g2
    | false =>
      obtain ⟨o1, g1, g2⟩ := h2 rfl
      exact fin g1 g2)
/-! ### lists changed in place -/
theorem sds_app {cpos epos : Pos} (n : Nat) (h : Γ[n]? = some (.ow (.lst ds))) (hst : stab Γ = true) (he : Ev X H0 Oc Γ e (.va d)) (hn : ds.length ≤ 1000000) (hr : Sds X W H0 Oc (Γ.set n (.ow (.lst (ds ++ [d])))) rest out)
    (hN : X.N[n]? = some x) (hv : Vis X.env.scope x) (hd : (x == ("__debug__" : Str)) = false) (hcd : (x == ("__classdict__" : Str)) = false)
    (hbase : attributeBase (.Name x p) "append" X.env (eval (.Name x p) X.env) = eval (.Name x p) X.env := by rfl)
    (hfew : ((backTo cpos (starEach [e] X.env)).all (fun x => !x.1) && (backToKw cpos (keywordEach [] X.env)).all (fun x => x.1.isSome)
      && decide (([e] : List Expr).length + ([] : List Keyword).length + (if ([] : List Keyword).isEmpty then 0 else 1) < 30)) = true := by rfl)
    (hline : (apos.endLine == cpos.line) = true := by rfl) (hs : starEach [e] X.env = (false, eval e X.env) :: starEach [] X.env := by rfl) (hplain : (backTo cpos (starEach [] X.env)).any (·.1) = false := by rfl)
    (hsw : swapsWith (.Call (.Attribute (.Name x p) "append" apos) [e] [] cpos) none epos.line X.env = pure false := by rfl) :
    Sds X W H0 Oc Γ (.Expr (.Call (.Attribute (.Name x p) "append" apos) [e] [] cpos) epos :: rest) out := fun Δ τ σ H D hl st w k => by
  refine wpSs.of (pss_cons (ps_expr (pe_bm PySem.F.plainAttrs_list PySem.F.slot_list_append PySem.F.type_list_append mt_append (pe_var hN hv hd hcd) (pa_cons pe_wp pa_nil hs) hbase hfew hline hs hplain) hsw) pss_wp) ?_
  obtain ⟨O0, w0⟩ := id w
  obtain ⟨y, hy, pp, oo, rfl, g2, g3, g4, g5⟩ := slot_of hl w0 h
  refine ⟨.ref pp, hy, ?_, ?_⟩
  · cases oo <;> first
      | exact g5.elim
      | exact .inl ⟨rfl, _, .of g4⟩
  · refine he Δ τ σ H _ hl w fun v H1 ⟨O, w1⟩ => ?_
    obtain ⟨y', hy', q, u, e1, k2, k3, k4, k5⟩ := slot_of hl w1.pop h
    rw [hy] at hy'
    cases hy'
    cases e1
    obtain ⟨v', e2, rv⟩ := w1.head
    cases e2
    cases u <;> first | exact k5.elim | skip
    rename_i vs
    have k5' : Reps X.K (cut H1 O) ds vs := k5
    refine ⟨pp, vs, v, rfl, rfl, k4, ?_, ?_⟩
    · rw [k5'.len, sizeLine_eq]
      omega
    · exact hr Δ τ σ _ D hl st ⟨O, w1.pop.mutN hl st hst h hy (o' := .lst (vs ++ [v])) (d' := .lst (ds ++ [d])) (k5'.app (Reps.one rv))⟩ k
end
end Y

namespace Y
open PySem L2

/-! ## what is walked -/
structure ItOk (K : PySem.W.Frag) (H0 : Hp) (Oc : List Addr) (J : It) (Δh : List Sl) (τh : List (Option V)) (ds : List D) : Prop where
  len : τh.length = Δh.length
  st : stab Δh = true
  go : ∀ (i : Nat) (Δp G : List Sl) (τp S : List (Option V)) (H : Hp), τp.length = Δp.length → i < ds.length → Wf K H0 Oc (Δp ++ (Δh ++ G)) (τp ++ (τh ++ S)) H →
    J.go i H ∧ ∀ x H', J.yld i H x H' → ∃ d, ds[i]? = some d ∧ Wf K H0 Oc (.va d :: (Δp ++ (Δh ++ G))) (some x :: (τp ++ (τh ++ S))) H'
  stop : ∀ (i : Nat) (Δp G : List Sl) (τp S : List (Option V)) (H : Hp), τp.length = Δp.length → ds.length ≤ i → Wf K H0 Oc (Δp ++ (Δh ++ G)) (τp ++ (τh ++ S)) H → J.stop i H
theorem WfO.drop {K : PySem.W.Frag} {H0 : Hp} {O Oc : List Addr} {G : List Sl} {S : List (Option V)} {H : Hp} : ∀ {Δ : List Sl} {τ : List (Option V)}, τ.length = Δ.length → WfO K H0 Oc O (Δ ++ G) (τ ++ S) H → WfO K H0 Oc O G S H
  | [], [], _, w => w
  | [], _ :: _, h, _ => by simp at h
  | _ :: _, [], h, _ => by simp at h
  | _ :: Δ, _ :: τ, h, w => WfO.drop (Δ := Δ) (τ := τ) (by simpa using h) w.pop
def Ei (X : Cx) (H0 : Hp) (Oc : List Addr) (Γ : List Sl) (tg iter : Expr) (ds : List D) : Prop := ∃ wi : TI, PI X tg iter wi ∧ ∀ (Δ : List Sl) (τ : List (Option V)) (σ : L2.St) (H : Hp) (R : It → Hp → Prop), τ.length = Δ.length → Wf X.K H0 Oc (Δ ++ Γ) (τ ++ σ) H →
  (∀ J Δh τh H', (∀ H0' Oc', ItOk X.K H0' Oc' J Δh τh ds) → Δh.map Sl.arg = Δh → Wf X.K H0 Oc (Δh ++ (Δ ++ Γ)) (τh ++ (τ ++ σ)) H' → R J H') → wi σ H R
theorem Ei.as {X : Cx} {H0 : Hp} {Oc : List Addr} {Γ : List Sl} {tg iter : Expr} {ds ds' : List D} (h : Ei X H0 Oc Γ tg iter ds) (e : ds = ds') : Ei X H0 Oc Γ tg iter ds' := e ▸ h
section
variable {X : Cx} {W : WX} {H0 : Hp} {Oc : List Addr} {Γ Γ1 Γ' : List Sl} {e a b c o tg iter : Expr} {es : List Expr} {rest body els : List Stmt} {s s0 s1 s2 : Sl} {ss : List Sl} {d d1 d2 : D} {ds ds1 ds2 : List D} {i j : Int} {pos p2 p apos : Pos} {x m : Str} {out o1 : Out} {n : Nat} {q : Bool}
theorem Reps.lt_get {K : PySem.W.Frag} {H : Hp} {vs : List V} {i : Nat} (h : Reps K H ds vs) (hi : i < ds.length) : ∃ d v, ds[i]? = some d ∧ vs[i]? = some v ∧ Rep K H d v := by
  have e : ds[i]? = some ds[i] := List.getElem?_eq_getElem hi
  obtain ⟨v, h1, h2⟩ := h.get e
  exact ⟨_, v, e, h1, h2⟩
/-- a slot that stands by itself while a loop runs -/
def Sl.held : Sl → Option D
  | .va d => some d
  | .br d => some d
  | _ => none
theorem held_b {K : PySem.W.Frag} {O : List Addr} {H : Hp} {v : V} (e : Ex H0 H) (h : SlOk K H0 O H s (some v)) (hs : s.held = some d) : RepB K H (cut H O) d v := h.b e (by cases s <;> first | exact hs | cases hs)
theorem held_stab (hs : s.held = some d) : stab [s] = true := by cases s <;> first | rfl | cases hs
theorem held_arg (hs : s.held = some d) : [s].map Sl.arg = [s] := by cases s <;> first | rfl | cases hs
theorem it_lst {K : PySem.W.Frag} {l : Addr} (hs : s.held = some (.lst ds)) : ItOk K H0 Oc (Itl K l) [s] [some (.ref l)] ds := by
  refine ⟨rfl, held_stab hs, fun i Δp G τp S H hp hi ⟨O, w⟩ => ?_, fun i Δp G τp S H hp hi ⟨O, w⟩ => ?_⟩
  · obtain ⟨l', vs, e, g1, g2⟩ := held_b w.ex (w.drop hp).head hs
    cases e
    obtain ⟨d', v', e1, e2, rv⟩ := g2.lt_get hi
    refine ⟨⟨vs, v', .of g1, e2⟩, fun x H' y => ?_⟩
    obtain ⟨eH, y⟩ := y
    subst eH
    have e3 := y vs (.of g1)
    rw [e2] at e3
    cases e3
    exact ⟨d', e1, O, w.push ⟨_, rfl, rv⟩ fun _ z => nomatch z⟩
  · obtain ⟨l', vs, e, g1, g2⟩ := held_b w.ex (w.drop hp).head hs
    cases e
    exact ⟨vs, .of g1, by rw [g2.len]; exact hi⟩
theorem it_tup {K : PySem.W.Frag} {l : Addr} (hs : s.held = some (.tup ds)) : ItOk K H0 Oc (Itt K l) [s] [some (.ref l)] ds := by
  refine ⟨rfl, held_stab hs, fun i Δp G τp S H hp hi ⟨O, w⟩ => ?_, fun i Δp G τp S H hp hi ⟨O, w⟩ => ?_⟩
  · obtain ⟨l', vs, e, g1, g2⟩ := held_b w.ex (w.drop hp).head hs
    cases e
    obtain ⟨d', v', e1, e2, rv⟩ := g2.lt_get hi
    refine ⟨⟨vs, v', .of g1, e2⟩, fun x H' y => ?_⟩
    obtain ⟨eH, y⟩ := y
    subst eH
    have e3 := y vs (.of g1)
    rw [e2] at e3
    cases e3
    exact ⟨d', e1, O, w.push ⟨_, rfl, rv⟩ fun _ z => nomatch z⟩
  · obtain ⟨l', vs, e, g1, g2⟩ := held_b w.ex (w.drop hp).head hs
    cases e
    exact ⟨vs, .of g1, by rw [g2.len]; exact hi⟩
theorem ei_lst (he : Ev X H0 Oc Γ iter s) (hs : s.held = some (.lst ds)) : Ei X H0 Oc Γ tg iter ds := ⟨_, pi_list pe_wp, fun Δ τ σ H R hl w k => he Δ τ σ H _ hl w fun v H1 w1 => by
  obtain ⟨O, w1'⟩ := id w1
  obtain ⟨l, vs, rfl, h1, h2⟩ := held_b w1'.ex w1'.head hs
  exact ⟨l, rfl, ⟨vs, .of h1⟩, k _ [s] [some (.ref l)] H1 (fun _ _ => it_lst hs) (held_arg hs) w1⟩⟩
theorem ei_tup (he : Ev X H0 Oc Γ iter s) (hs : s.held = some (.tup ds)) : Ei X H0 Oc Γ tg iter ds := ⟨_, pi_tup pe_wp, fun Δ τ σ H R hl w k => he Δ τ σ H _ hl w fun v H1 w1 => by
  obtain ⟨O, w1'⟩ := id w1
  obtain ⟨l, vs, rfl, h1, h2⟩ := held_b w1'.ex w1'.head hs
  exact ⟨l, rfl, ⟨vs, .of h1⟩, k _ [s] [some (.ref l)] H1 (fun _ _ => it_tup hs) (held_arg hs) w1⟩⟩
/-- range(..) -/
def rngD (lo : Int) (n : Nat) : List D := (List.range n).map fun (i : Nat) => .int (lo + (i : Int))
theorem rngD_get {lo : Int} {n i : Nat} (h : i < n) : (rngD lo n)[i]? = some (.int (lo + (i : Int))) := by
  unfold rngD
  rw [List.getElem?_map, List.getElem?_range h]
  rfl
theorem rngD_len {lo : Int} {n : Nat} : (rngD lo n).length = n := by unfold rngD; simp
theorem it_rng {K : PySem.W.Frag} {lo : Int} {n : Nat} : ItOk K H0 Oc (Itr lo n) [] [] (rngD lo n) := by
  refine ⟨rfl, rfl, fun i Δp G τp S H hp hi ⟨O, w⟩ => ?_, fun i Δp G τp S H hp hi w => ?_⟩
  · rw [rngD_len] at hi
    refine ⟨hi, fun x H' y => ?_⟩
    obtain ⟨eH, ex⟩ := y
    subst eH
    exact ⟨_, rngD_get hi, O, w.flat rfl (by rw [ex]; exact (show Rep K H' (.int (lo + (i : Int))) (.int (lo + (i : Int))) from rfl))⟩
  · rw [rngD_len] at hi
    exact hi
theorem ei_rng1 {j : Int} (ha : Ev X H0 Oc Γ a (.va (.int j))) (h1 : -1000000000 ≤ j) (h2 : j ≤ 1000000000) (hm : X.mg "range" = none) (hg : Gl X "range" := by rfl) (hs : starEach [a] X.env = [(false, eval a X.env)] := by rfl) (hs' : starEach [a] X.env = (false, eval a X.env) :: starEach [] X.env := by rfl) :
    Ei X H0 Oc Γ tg (.Call (.Name "range" p) [a] [] pos) (rngD 0 j.toNat) := ⟨_, pi_range1 hg hm (pa_cons pe_wp pa_nil hs') hs, fun Δ τ σ H R hl w k => ha Δ τ σ H _ hl w fun v H1 ⟨O, w1⟩ => by
  obtain ⟨u, e, r⟩ := w1.head
  cases e
  exact ⟨j, by rw [show v = _ from r], by omega, by omega, k _ [] [] H1 (fun _ _ => it_rng) rfl ⟨O, w1.pop⟩⟩⟩
theorem ei_rng2 {i j : Int} (ha : Ev X H0 Oc Γ a (.va (.int i))) (hb : Ev X H0 Oc Γ b (.va (.int j))) (h1 : -1000000000 ≤ i ∧ i ≤ 1000000000 ∧ -1000000000 ≤ j ∧ j ≤ 1000000000) (hm : X.mg "range" = none) (hg : Gl X "range" := by rfl)
    (hs1 : starEach [a, b] X.env = (false, eval a X.env) :: starEach [b] X.env := by rfl) (hs2 : starEach [b] X.env = (false, eval b X.env) :: starEach [] X.env := by rfl) :
    Ei X H0 Oc Γ tg (.Call (.Name "range" p) [a, b] [] pos) (rngD i (j - i).toNat) := ⟨_, pi_range2 hg hm (pa_cons pe_wp (pa_cons pe_wp pa_nil hs2) hs1) (hs1.trans (by rw [hs2] <;> rfl)) (hs2.trans rfl), fun Δ τ σ H R hl w k => ha Δ τ σ H _ hl w fun v H1 w1 => hb (_ :: Δ) (_ :: τ) σ H1 _ (by simp [hl]) w1 fun v2 H2 ⟨O, w2⟩ => by
  obtain ⟨u, e, r⟩ := w2.head
  obtain ⟨u', e', r'⟩ := w2.pop.head
  cases e
  cases e'
  exact ⟨i, j, by rw [show v2 = _ from r, show v = _ from r'], ⟨by omega, by omega, by omega, by omega⟩, k _ [] [] H2 (fun _ _ => it_rng) rfl ⟨O, w2.pop.pop⟩⟩⟩
/-- enumerate(list) -/
def enumD (ds : List D) : List D := (List.range ds.length).zipWith (fun (i : Nat) d => .tup [.int (i : Int), d]) ds
theorem enumD_get {i : Nat} {d : D} (h : ds[i]? = some d) : (enumD ds)[i]? = some (.tup [.int (i : Int), d]) := by
  unfold enumD
  have hi := (List.getElem?_eq_some_iff.mp h).1
  rw [List.getElem?_zipWith, List.getElem?_range hi, h]
theorem enumD_len : (enumD ds).length = ds.length := by unfold enumD; simp
theorem it_enum {K : PySem.W.Frag} {l : Addr} (hs : s.held = some (.lst ds)) : ItOk K H0 Oc (Ite K l) [s] [some (.ref l)] (enumD ds) := by
  refine ⟨rfl, held_stab hs, fun i Δp G τp S H hp hi ⟨O, w⟩ => ?_, fun i Δp G τp S H hp hi ⟨O, w⟩ => ?_⟩
  · obtain ⟨l', vs, e, g1, g2⟩ := held_b w.ex (w.drop hp).head hs
    cases e
    rw [enumD_len] at hi
    obtain ⟨d', v', e1, e2, rv⟩ := g2.lt_get hi
    refine ⟨⟨vs, v', .of g1, e2⟩, fun x H' y => ?_⟩
    obtain ⟨T, z, ex, hT, eH, y⟩ := y
    subst eH
    subst ex
    have e3 := y vs (.of g1)
    rw [e2] at e3
    cases e3
    exact ⟨_, enumD_get e1, O, w.newTup hT (Reps.cons (show Rep K _ (.int (i : Int)) (.int (i : Int)) from rfl) (Reps.one rv))⟩
  · obtain ⟨l', vs, e, g1, g2⟩ := held_b w.ex (w.drop hp).head hs
    cases e
    rw [enumD_len] at hi
    exact ⟨vs, .of g1, by rw [g2.len]; exact hi⟩
theorem ei_enum {elts : List Expr} {kk : Nat} {tpos : Pos} (ha : Ev X H0 Oc Γ a s) (hs : s.held = some (.lst ds)) (hm : X.mg "enumerate" = none) (hg : Gl X "enumerate" := by rfl) (hst : starEach [a] X.env = [(false, eval a X.env)] := by rfl) (hst' : starEach [a] X.env = (false, eval a X.env) :: starEach [] X.env := by rfl) :
    Ei X H0 Oc Γ (.Tuple elts kk tpos) (.Call (.Name "enumerate" p) [a] [] pos) (enumD ds) := ⟨_, pi_enum hg hm (pa_cons pe_wp pa_nil hst') hst, fun Δ τ σ H R hl w k => ha Δ τ σ H _ hl w fun v H1 w1 => by
  obtain ⟨O, w1'⟩ := id w1
  obtain ⟨l, vs, rfl, h1, h2⟩ := held_b w1'.ex w1'.head hs
  exact ⟨l, vs, rfl, .of h1, k _ [s] [some (.ref l)] H1 (fun _ _ => it_enum hs) (held_arg hs) w1⟩⟩
/-! ## for -/
/-- what a turn's end asks -/
def TurnOk (X : Cx) (W : WX) (H0 : Hp) (Oc : List Addr) (rest : List Stmt) (out : Out) (Nx : List Sl → Prop) : Out → Prop
  | .nx Γ => Nx Γ
  | .cnt Γ => Nx Γ
  | .brk Γ => Sds X W H0 Oc Γ rest out
  | o => o = out
theorem app3 {α : Type} {a b c : List α} : a ++ (b ++ c) = (a ++ b) ++ c := (List.append_assoc a b c).symm
theorem Wf.drop {K : PySem.W.Frag} {G : List Sl} {S : List (Option V)} {H : Hp} : ∀ {Δ : List Sl} {τ : List (Option V)}, τ.length = Δ.length → Wf K H0 Oc (Δ ++ G) (τ ++ S) H → Wf K H0 Oc G S H
  | [], [], _, w => w
  | [], _ :: _, h, _ => by simp at h
  | _ :: _, [], h, _ => by simp at h
  | _ :: Δ, _ :: τ, h, w => Wf.drop (Δ := Δ) (τ := τ) (by simpa using h) w.pop
/-- what lies below the head is left out -/
theorem Wf.drop1 {K : PySem.W.Frag} {G : List Sl} {S : List (Option V)} {H : Hp} {y : Option V} {Δ : List Sl} {τ : List (Option V)} (hl : τ.length = Δ.length) (w : Wf K H0 Oc (s :: (Δ ++ G)) (y :: (τ ++ S)) H) : Wf K H0 Oc (s :: G) (y :: S) H := by
  obtain ⟨O, w⟩ := w
  have low : ∀ {i : Nat}, (s :: (Δ ++ G))[if i = 0 then 0 else i + Δ.length]? = (s :: G)[i]? ∧ (y :: (τ ++ S))[if i = 0 then 0 else i + Δ.length]? = (y :: S)[i]? := fun {i} => by
    cases i with
    | zero => exact ⟨rfl, rfl⟩
    | succ i =>
      rw [if_neg (Nat.succ_ne_zero i)]
      have e : i + 1 + Δ.length = (Δ.length + i) + 1 := by omega
      rw [e]
      refine ⟨?_, ?_⟩
      · show (Δ ++ G)[Δ.length + i]? = G[i]?
        rw [List.getElem?_append_right (by omega)]
        simp
      · show (τ ++ S)[Δ.length + i]? = S[i]?
        rw [← hl, List.getElem?_append_right (by omega)]
        simp
  refine ⟨O, w.sub, w.new, w.old, w.live, w.ex, ?_, fun i s' x h1 h2 => w.ok _ s' x (low.1.trans h1) (low.2.trans h2), fun i j p d d' h1 h2 h3 h4 => ?_⟩
  · have := w.len
    simp only [List.length_cons, List.length_append] at this ⊢
    omega
  · have := w.nd _ _ p d d' (low.1.trans h1) (low.2.trans h2) (low.1.trans h3) (low.2.trans h4)
    by_cases hi : i = 0
    · by_cases hj : j = 0
      · omega
      · rw [if_pos hi, if_neg hj] at this; omega
    · by_cases hj : j = 0
      · rw [if_neg hi, if_pos hj] at this; omega
      · rw [if_neg hi, if_neg hj] at this; omega
theorem sat_in {Δ Δh : List Sl} {τ τh : List (Option V)} {D : Ends} {N : L2.St → Hp → Prop} {o : Out} (hl : τh.length = Δh.length) (hx : (∃ s, o = .ret s) ∨ ∃ C ns ds Γe, o = .exc C ns ds Γe) (h : Sat X W H0 Oc Δ τ D o) (Nb : L2.St → Hp → Prop) :
    Sat X W H0 Oc (Δh ++ Δ) (τh ++ τ) { D with nx := N, ct := N, bk := Nb } o := by
  rcases hx with ⟨s, rfl⟩ | ⟨C, ns, ds, Γe, rfl⟩
  · exact h
  · intro d σ H hw
    refine h d σ H ?_
    cases Γe with
    | none => exact hw
    | some Γe =>
      have hw' : Wf X.K H0 Oc (.va (.xd ns ds) :: ((Δh ++ Δ) ++ Γe)) (some (.ref d) :: ((τh ++ τ) ++ σ)) H := hw
      rw [← app3, ← app3] at hw'
      exact hw'.drop1 hl
theorem sds_for (G : Nat → List Sl) (P : Nat → Prop) (hp : PassesOwn (model X.prog X.w) X.A X.env X.xe) (hc : X.calm = true) (hi : Ei X H0 Oc Γ tg iter ds) (h0 : Sub Γ (G 0)) (p0 : P 0)
    (hb : ∀ i d, ds[i]? = some d → P i → ∃ Γ1 ob, Tg X H0 Oc tg (G i) (.va d) Γ1 ∧ Sds X W H0 Oc Γ1 body ob ∧ TurnOk X W H0 Oc rest out (fun Γ2 => Sub Γ2 (G (i + 1)) ∧ P (i + 1)) ob)
    (hr : P ds.length → Sds X W H0 Oc (G ds.length) rest out)
    (hs : ∀ x, foldedSetIterable iter X.env x = pure x := by intro _; rfl) : Sds X W H0 Oc Γ (.For tg iter body [] pos :: rest) out := fun Δ τ σ H D hl st w k => by
  obtain ⟨wi, hpi, hwi⟩ := hi
  refine wpSs.of (pss_cons (ps_for hp hc hpi pg_wp pss_wp hs) pss_wp) ?_
  refine hwi Δ τ σ H _ hl w fun J Δh τh H1 ok harg w1 => ?_
  have ok := ok H0 Oc
  have hl2 : (τh ++ τ).length = (Δh ++ Δ).length := by rw [List.length_append, List.length_append, hl, ok.len]
  have st2 : stab (Δh ++ Δ) = true := by rw [stab_app, ok.st, st]; rfl
  refine ⟨fun i m σ H => m = ds.length - i ∧ i ≤ ds.length ∧ P i ∧ Wf X.K H0 Oc ((Δh ++ Δ) ++ G i) ((τh ++ τ) ++ σ) H, ⟨ds.length, by simp, Nat.zero_le _, p0, ?_⟩, ?_⟩
  · rw [app3, app3] at w1
    exact w1.sub h0.app
  rintro i m σ1 H2 ⟨rfl, hi, pi, w2⟩
  by_cases hlt : i < ds.length
  · have w2' := w2
    rw [← app3, ← app3] at w2'
    obtain ⟨g1, g2⟩ := ok.go i [] _ [] _ H2 rfl hlt w2'
    refine .inr ⟨g1, fun σ' H' => P (i + 1) ∧ Wf X.K H0 Oc ((Δh ++ Δ) ++ G (i + 1)) ((τh ++ τ) ++ σ') H', fun σ' H' ⟨q1, q2⟩ => ⟨ds.length - (i + 1), by omega, rfl, hlt, q1, q2⟩, fun x H' y => ?_⟩
    obtain ⟨d, hd, w3⟩ := g2 x H' y
    rw [List.nil_append, List.nil_append, app3, app3] at w3
    obtain ⟨Γ1, ob, t1, t2, t3⟩ := hb i d hd pi
    refine t1 (Δh ++ Δ) (τh ++ τ) σ1 H' x _ hl2 st2 w3 fun σ2 H3 w4 => ?_
    refine t2 (Δh ++ Δ) (τh ++ τ) σ2 H3 _ hl2 st2 w4 ?_
    cases ob with
    | nx Γ2 => exact fun σ' H' w' => ⟨t3.2, w'.sub t3.1.app⟩
    | cnt Γ2 => exact fun σ' H' w' => ⟨t3.2, w'.sub t3.1.app⟩
    | brk Γ2 =>
      refine fun σ' H' w' => ?_
      rw [← app3, ← app3] at w'
      exact t3 Δ τ σ' H' D hl st (w'.drop ok.len) k
    | ret s =>
      have e : Out.ret s = out := t3
      subst e
      exact k
    | exc C ns ds' Γe =>
      have e : Out.exc C ns ds' Γe = out := t3
      subst e
      exact sat_in (D := D) ok.len (.inr ⟨C, ns, ds', Γe, rfl⟩) k _
  · have e : i = ds.length := by omega
    subst e
    have w2' := w2
    rw [← app3, ← app3] at w2'
    exact .inl ⟨ok.stop _ [] _ [] _ H2 rfl (Nat.le_refl _) w2', hr pi Δ τ σ1 H2 D hl st (w2'.drop ok.len) k⟩
end
end Y

namespace Y
open PySem L2

/-! ## comprehensions: like a callee that reads what stands -/
def wipeG (Γ : List Sl) : List Nat → List Sl
  | [] => Γ
  | v :: vs => (wipeG Γ vs).set v .no
def Tgw (X : Cx) (H0 : Hp) (Oc : List Addr) (vs : List Nat) (tg : Expr) (Γ : List Sl) (s : Sl) (Γ' : List Sl) : Prop := ∀ (Δ : List Sl) (τ : List (Option V)) (σ : L2.St) (H : Hp) (v : V) (Q : L2.St → Hp → Prop), τ.length = Δ.length → Wf X.K H0 Oc (s :: (Δ ++ Γ)) (some v :: (τ ++ σ)) H →
  (∀ σ' H', wipe σ' vs = wipe σ vs → Wf X.K H0 Oc (Δ ++ Γ') (τ ++ σ') H' → Q σ' H') → wpG X tg v σ H Q
theorem wipe_get (σ : L2.St) : ∀ (vs : List Nat) (i : Nat), (wipe σ vs)[i]? = if i ∈ vs ∧ i < σ.length then some none else σ[i]?
  | [], i => by simp [wipe]
  | v :: vs, i => by
    unfold wipe
    rw [List.getElem?_set, wipe_get σ vs i, wipe_length]
    by_cases h : v = i
    · subst h
      by_cases hl : v < σ.length
      · simp [hl]
      · simp [hl]
    · rw [if_neg h]
      simp only [List.mem_cons, Ne.symm h, false_or]
theorem wipe_set {σ : L2.St} {vs : List Nat} {n : Nat} {x : Option V} (h : n ∈ vs) : wipe (σ.set n x) vs = wipe σ vs := by
  apply List.ext_getElem?
  intro i
  rw [wipe_get, wipe_get, List.length_set]
  by_cases hi : i ∈ vs ∧ i < σ.length
  · rw [if_pos hi, if_pos hi]
  · rw [if_neg hi, if_neg hi]
    by_cases e : n = i
    · subst e
      have : ¬ n < σ.length := fun z => hi ⟨h, z⟩
      rw [List.getElem?_eq_none (by simp; omega), List.getElem?_eq_none (by omega)]
    · rw [List.getElem?_set_ne e]
theorem wipe_wipe {σ : L2.St} {vs : List Nat} : wipe (wipe σ vs) vs = wipe σ vs := by
  apply List.ext_getElem?
  intro i
  rw [wipe_get, wipe_get, wipe_length]
  by_cases hi : i ∈ vs ∧ i < σ.length
  · rw [if_pos hi, if_pos hi]
  · rw [if_neg hi, if_neg hi]
section
variable {K : PySem.W.Frag} {H0 H : Hp} {O Oc : List Addr} {G G' Δ Γ Γ' : List Sl} {S : List (Option V)} {s : Sl}
theorem Wf.unset {n : Nat} {τ : List (Option V)} {σ : L2.St} (hl : τ.length = Δ.length) (w : Wf K H0 Oc (Δ ++ Γ) (τ ++ σ) H) : Wf K H0 Oc (Δ ++ Γ.set n .no) (τ ++ σ.set n none) H := by
  obtain ⟨O, w⟩ := w
  have hlen : σ.length = Γ.length := by
    have := w.len
    simp only [List.length_append] at this
    omega
  have key : ∀ i s', (Δ ++ Γ.set n .no)[i]? = some s' → s' = Sl.no ∨ ((Δ ++ Γ)[i]? = some s' ∧ (τ ++ σ.set n none)[i]? = (τ ++ σ)[i]?) := fun i s' h => by
    by_cases hi : i < Δ.length
    · rw [List.getElem?_append_left hi] at h
      refine .inr ⟨by rw [List.getElem?_append_left hi]; exact h, ?_⟩
      rw [List.getElem?_append_left (by omega), List.getElem?_append_left (by omega)]
    · rw [List.getElem?_append_right (by omega)] at h
      by_cases e : n = i - Δ.length
      · rw [List.getElem?_set, if_pos e] at h
        split at h
        · exact .inl (Option.some.inj h).symm
        · cases h
      · rw [List.getElem?_set_ne e] at h
        refine .inr ⟨by rw [List.getElem?_append_right (by omega)]; exact h, ?_⟩
        rw [List.getElem?_append_right (by omega), List.getElem?_append_right (by omega), List.getElem?_set_ne (by omega)]
  refine ⟨O, w.sub, w.new, w.old, w.live, w.ex, by simp [hl, hlen], fun i s' x h1 h2 => ?_, fun i j p d d' h1 h2 h3 h4 => ?_⟩
  · rcases key i s' h1 with e | ⟨e1, e2⟩
    · rw [e]; trivial
    · exact w.ok i s' x e1 (e2 ▸ h2)
  · rcases key i _ h1 with e | ⟨e1, e2⟩
    · exact nomatch e
    · rcases key j _ h3 with f | ⟨f1, f2⟩
      · exact nomatch f
      · exact w.nd i j p d d' e1 (e2 ▸ h2) f1 (f2 ▸ h4)
theorem Wf.wiped {τ : List (Option V)} {σ : L2.St} (hl : τ.length = Δ.length) (w : Wf K H0 Oc (Δ ++ Γ) (τ ++ σ) H) : ∀ vs : List Nat, Wf K H0 Oc (Δ ++ wipeG Γ vs) (τ ++ wipe σ vs) H
  | [] => w
  | _ :: vs => (Wf.wiped hl w vs).unset hl
theorem WfO.toArg (w : WfO K H0 Oc O G S H) (hs : ∀ (i : Nat) (s : Sl), G[i]? = some s → s ≠ .no → ∃ v, S[i]? = some (some v)) : Wf K H O (G.map Sl.arg) S H := by
  refine ⟨O, fun a z => z, fun a z => .inl z, w.live, w.live, fun _ _ z => z, by rw [List.length_map]; exact w.len, fun i s x h1 h2 => ?_, fun i j p d d' h1 _ _ _ => (arg_not h1).elim⟩
  rw [List.getElem?_map] at h1
  cases q : G[i]? with
  | none => rw [q] at h1; cases h1
  | some s' =>
    rw [q] at h1
    cases h1
    by_cases hn : s' = .no
    · rw [hn]; trivial
    · obtain ⟨v, hv⟩ := hs i s' q hn
      rw [h2] at hv
      cases hv
      exact (w.ok i s' _ q h2).arg w.ex
theorem WfO.toArg' (w : WfO K H0 Oc O G S H) : Wf K H O (G.map Sl.arg) S H := w.toArg fun i s h hn => by
  have hi : i < S.length := by
    rw [w.len]
    exact (List.getElem?_eq_some_iff.mp h).1
  have ok := w.ok i s S[i] h (List.getElem?_eq_getElem hi)
  rw [List.getElem?_eq_getElem hi]
  cases s with
  | no => exact absurd rfl hn
  | va d => obtain ⟨v, e, _⟩ := ok; exact ⟨v, by rw [e]⟩
  | ow d => obtain ⟨p, _, e, _⟩ := ok; exact ⟨.ref p, by rw [e]⟩
  | br d => obtain ⟨v, e, _⟩ := ok; exact ⟨v, by rw [e]⟩
  | bw d => obtain ⟨v, e, _⟩ := ok; exact ⟨v, by rw [e]⟩
theorem stab_arg : stab (G.map Sl.arg) = true := by
  unfold stab
  rw [List.all_map, List.all_eq_true]
  intro s _
  cases s <;> rfl
end
/-- the block's context -/
abbrev blkX (X : Cx) (scope : Scope) (s : Shared) (H : Hp) (C : Addr) (cl : List (Str × Addr)) (fp : List Addr) : Cx := X.blk s H scope (compEnvC scope cl C X.env) fp
/-- the tests of a clause -/
def Ets (X : Cx) (H0 : Hp) (Oc : List Addr) (Γ : List Sl) : List Expr → Bool → Prop
  | [], b => b = true
  | [c], b => Et X H0 Oc Γ c b
  | _, _ => False
section
variable {X : Cx} {W : WX} {H0 : Hp} {Oc : List Addr} {Γ Γ1 Γ' : List Sl} {e a b c o tg iter elt : Expr} {ifs : List Expr} {ds : List D} {pos pos' : Pos} {scope : Scope} {own : List (Str × Nat)}
def wG (X : Cx) (scope : Scope) (tg : Expr) : TG := fun v σ H Q => ∀ s0 H00 C cl fp, wpG (blkX X scope s0 H00 C cl fp) tg v σ H Q
def wE (X : Cx) (scope : Scope) (e : Expr) : TE := fun σ H Q => ∀ s0 H00 C cl fp, wpE (blkX X scope s0 H00 C cl fp) e σ H Q
def wT (X : Cx) (scope : Scope) : List Expr → TT
  | [] => tYes
  | [c] => fun σ H Q => ∀ s0 H00 C cl fp, wpT (blkX X scope s0 H00 C cl fp) c σ H Q
  | _ => fun _ _ _ => False
theorem pts_wT : ∀ {ifs : List Expr} {s0 H00 C cl fp}, PTs (blkX X scope s0 H00 C cl fp) ifs (wT X scope ifs)
  | [], _, _, _, _, _ => pts_nil
  | [c], s0, H00, C, cl, fp => pts_one ⟨fun pins s σ H Q I h => h s0 H00 C cl fp pins s I⟩
  | _ :: _ :: _, _, _, _, _, _ => ⟨fun pins s σ H Q I h => h.elim⟩
theorem lc_run {α : Type} (xs : List α) (enc : α → D) (p : α → Bool) (g : α → D) (Γe : α → List Sl) {Δ : List Sl} {τ : List (Option V)} {σ : L2.St} {H : Hp} {Q : VK} {wi : TI} (hl : τ.length = Δ.length) (w : Wf X.K H0 Oc (Δ ++ Γ) (τ ++ σ) H)
    (hwi : ∀ (Δ : List Sl) (τ : List (Option V)) (σ : L2.St) (H : Hp) (R : It → Hp → Prop), τ.length = Δ.length → Wf X.K H0 Oc (Δ ++ Γ) (τ ++ σ) H →
      (∀ J Δh τh H', (∀ H0' Oc', ItOk X.K H0' Oc' J Δh τh (xs.map enc)) → Δh.map Sl.arg = Δh → Wf X.K H0 Oc (Δh ++ (Δ ++ Γ)) (τh ++ (τ ++ σ)) H' → R J H') → wi σ H R)
    (hn : xs.length ≤ 1000000)
    (ht : ∀ x ∈ xs, ∀ H0' Oc' s0 H00 C cl fp, Tgw (blkX X scope s0 H00 C cl fp) H0' Oc' (own.map (·.2)) tg (wipeG (Γ.map Sl.arg) (own.map (·.2))) (.va (enc x)) (Γe x))
    (hst : ∀ x ∈ xs, stab (Γe x) = true ∧ Sub (wipeG (Γe x) (own.map (·.2))) (wipeG (Γ.map Sl.arg) (own.map (·.2))))
    (hp : ∀ x ∈ xs, ∀ H0' Oc' s0 H00 C cl fp, Ets (blkX X scope s0 H00 C cl fp) H0' Oc' (Γe x) ifs (p x))
    (he : ∀ x ∈ xs, p x = true → ∀ H0' Oc' s0 H00 C cl fp, Ev (blkX X scope s0 H00 C cl fp) H0' Oc' (Γe x) elt (.va (g x)))
    (q : ∀ v H', Wf X.K H0 Oc (.ow (.lst ((xs.filter p).map g)) :: (Δ ++ Γ)) (some v :: (τ ++ σ)) H' → Q v H') : tLc wi (wG X scope tg) (wT X scope ifs) (wE X scope elt) (own.map (·.2)) σ H Q := by
  refine hwi Δ τ σ H _ hl w fun J Δh τh H1 ok harg w1 => fun Dl hD => ?_
  obtain ⟨O, w1⟩ := w1
  have ok := ok H1 O
  have w1o : WfO X.K H0 Oc O (Δ ++ Γ) (τ ++ σ) H1 := w1.drop ok.len
  have hla : τ.length = (Δ.map Sl.arg).length := by simp [hl]
  have wb0 := w1.toArg'
  rw [List.map_append, harg, List.map_append] at wb0
  have hl3 : (τh ++ τ).length = (Δh ++ Δ.map Sl.arg).length := by simp [hl, ok.len]
  let Γw := wipeG (Γ.map Sl.arg) (own.map (·.2))
  let A := Δh ++ Δ.map Sl.arg
  let B := τh ++ τ
  have wb : Wf X.K H1 O (A ++ Γw) (B ++ wipe σ (own.map (·.2))) H1 := by
    rw [app3, app3] at wb0
    exact wb0.wiped hl3 _
  let res : Nat → List D := fun i => ((xs.take i).filter p).map g
  have stA : stab A = true := by rw [stab_app, ok.st, stab_arg]; rfl
  refine ⟨fun i m H => m = xs.length - i ∧ i ≤ xs.length ∧ Wf X.K H1 O (.ow (.lst (res i)) :: (A ++ Γw)) (some (.ref Dl) :: (B ++ wipe σ (own.map (·.2)))) H, ⟨xs.length, by simp, Nat.zero_le _, ?_⟩, ?_⟩
  · obtain ⟨O', wb⟩ := wb
    exact ⟨_, wb.newLst hD Reps.nil⟩
  rintro i m H2 ⟨rfl, hi, w2⟩
  by_cases hlt : i < xs.length
  · have w2' : Wf X.K H1 O ([.ow (.lst (res i))] ++ (Δh ++ (Δ.map Sl.arg ++ Γw))) ([some (.ref Dl)] ++ (τh ++ (τ ++ wipe σ (own.map (·.2))))) H2 := by
      rw [app3 (a := Δh), app3 (a := τh)]
      exact w2
    obtain ⟨g1, g2⟩ := ok.go i [_] _ [_] _ H2 rfl (by simpa using hlt) w2'
    refine .inr ⟨g1, fun H' => Wf X.K H1 O (.ow (.lst (res (i + 1))) :: (A ++ Γw)) (some (.ref Dl) :: (B ++ wipe σ (own.map (·.2)))) H', fun H' q1 => ⟨xs.length - (i + 1), by omega, rfl, hlt, q1⟩, fun y H' yy => ?_⟩
    obtain ⟨d, hd, w3⟩ := g2 y H' yy
    have ex : xs[i]? = some xs[i] := List.getElem?_eq_getElem hlt
    generalize xs[i] = x at ex
    have hx : x ∈ xs := List.mem_of_getElem? ex
    rw [List.getElem?_map, ex] at hd
    have hd' := Option.some.inj hd
    subst hd'
    have hres : res (i + 1) = if p x = true then res i ++ [g x] else res i := by
      show ((xs.take (i + 1)).filter p).map g = if p x = true then ((xs.take i).filter p).map g ++ [g x] else ((xs.take i).filter p).map g
      rw [List.take_add_one, ex, List.filter_append]
      cases hp' : p x <;> simp [hp']
    have hlr : (res i).length ≤ 1000000 := by
      show (((xs.take i).filter p).map g).length ≤ _
      rw [List.length_map]
      have h1 := List.length_filter_le p (xs.take i)
      rw [List.length_take] at h1
      omega
    have w3' : Wf X.K H1 O (.va (enc x) :: ((.ow (.lst (res i)) :: A) ++ Γw)) (some y :: ((some (.ref Dl) :: B) ++ wipe σ (own.map (·.2)))) H' := by
      have e1 : [Sl.ow (.lst (res i))] ++ (Δh ++ (Δ.map Sl.arg ++ Γw)) = (.ow (.lst (res i)) :: A) ++ Γw := by
        show _ :: (Δh ++ (Δ.map Sl.arg ++ Γw)) = _ :: ((Δh ++ Δ.map Sl.arg) ++ Γw)
        rw [app3]
      have e2 : [some (V.ref Dl)] ++ (τh ++ (τ ++ wipe σ (own.map (·.2)))) = (some (.ref Dl) :: B) ++ wipe σ (own.map (·.2)) := by
        show _ :: (τh ++ (τ ++ wipe σ (own.map (·.2)))) = _ :: ((τh ++ τ) ++ wipe σ (own.map (·.2)))
        rw [app3]
      rw [e1, e2] at w3
      exact w3
    have hlA : (some (V.ref Dl) :: B).length = (Sl.ow (.lst (res i)) :: A).length := congrArg Nat.succ hl3
    obtain ⟨st1, st2⟩ := hst x hx
    -- the turn's end, once the slots are wiped
    have back : ∀ {r : List D} {σ2 : L2.St} {H4 : Hp}, wipe σ2 (own.map (·.2)) = wipe σ (own.map (·.2)) → Wf X.K H1 O ((.ow (.lst r) :: A) ++ Γe x) ((some (.ref Dl) :: B) ++ σ2) H4 → Wf X.K H1 O (.ow (.lst r) :: (A ++ Γw)) (some (.ref Dl) :: (B ++ wipe σ (own.map (·.2)))) H4 := fun {r σ2 H4} hw w => by
      have z := (w.wiped (show (some (V.ref Dl) :: B).length = (Sl.ow (.lst r) :: A).length from congrArg Nat.succ hl3) (own.map (·.2))).sub (Sub.app st2)
      rw [hw] at z
      exact z
    refine fun s0 H00 C cl fp => ht x hx H1 O s0 H00 C cl fp (.ow (.lst (res i)) :: A) (some (.ref Dl) :: B) _ H' y _ hlA w3' fun σ2 H3 hw2 w4 => ?_
    rw [wipe_wipe] at hw2
    refine ⟨hw2, ?_⟩
    have cont : ∀ (b : Bool) (H4 : Hp), b = p x → Wf X.K H1 O ((.ow (.lst (res i)) :: A) ++ Γe x) ((some (.ref Dl) :: B) ++ σ2) H4 →
        (if b = true then wE X scope elt σ2 H4 fun y H5 => ∃ acc, H5 Dl = some (.lst acc) ∧ acc.length < sizeLine ∧ Wf X.K H1 O (.ow (.lst (res (i + 1))) :: (A ++ Γw)) (some (.ref Dl) :: (B ++ wipe σ (own.map (·.2)))) (upd H5 Dl (.lst (acc ++ [y])))
          else Wf X.K H1 O (.ow (.lst (res (i + 1))) :: (A ++ Γw)) (some (.ref Dl) :: (B ++ wipe σ (own.map (·.2)))) H4) := fun b H4 hb w5 => by
      subst hb
      cases hpx : p x with
      | false =>
        rw [hres, hpx]
        exact back hw2 w5
      | true =>
        refine fun s0 H00 C cl fp => he x hx hpx H1 O s0 H00 C cl fp (.ow (.lst (res i)) :: A) (some (.ref Dl) :: B) σ2 H4 _ hlA w5 fun y' H5 ⟨O5, w6⟩ => ?_
        obtain ⟨pp, oo, e1, k2, k3, k4, k5⟩ := w6.pop.head
        cases e1
        obtain ⟨v', e2, rv⟩ := w6.head
        cases e2
        cases oo <;> first | exact k5.elim | skip
        rename_i us
        have k5' : Reps X.K (cut H5 O5) (res i) us := k5
        refine ⟨us, k4, ?_, ?_⟩
        · rw [k5'.len, sizeLine_eq]
          omega
        · rw [hres, hpx]
          refine back hw2 ⟨O5, ?_⟩
          have z := w6.pop.mut (i := 0) (d' := .lst (res i ++ [g x])) (o' := .lst (us ++ [y'])) (by
            show stab ((Sl.ow (.lst (res i)) :: A) ++ Γe x) = true
            rw [stab_app, st1, stab_cons, stA]
            rfl) rfl rfl (k5'.app (Reps.one rv))
          exact z
    have tst := hp x hx
    match ifs, tst with
    | [], tst => exact cont true H3 (tst H1 O s0 H00 C cl fp).symm w4
    | [c], tst => exact fun s0 H00 C cl fp => tst H1 O s0 H00 C cl fp (.ow (.lst (res i)) :: A) (some (.ref Dl) :: B) σ2 H3 _ hlA w4 fun H4 w5 => cont _ H4 rfl w5
    | _ :: _ :: _, tst => exact (tst H1 O s0 H00 C cl fp).elim
  · have e : i = xs.length := by omega
    subst e
    have w2' : Wf X.K H1 O ([.ow (.lst (res xs.length))] ++ (Δh ++ (Δ.map Sl.arg ++ Γw))) ([some (.ref Dl)] ++ (τh ++ (τ ++ wipe σ (own.map (·.2))))) H2 := by
      rw [app3 (a := Δh), app3 (a := τh)]
      exact w2
    refine .inl ⟨ok.stop _ [_] _ [_] _ H2 rfl (by simp) w2', ?_⟩
    have w3 := w2.only
    have e : res xs.length = (xs.filter p).map g := by
      show ((xs.take xs.length).filter p).map g = _
      rw [List.take_length]
    rw [e] at w3
    exact q _ H2 (w1o.after w3 rfl)
end
end Y

namespace Y
open PySem L2
section
variable {X : Cx} {W : WX} {H0 : Hp} {Oc : List Addr} {Γ Γ1 Γ' : List Sl} {e a b c o tg iter elt ie : Expr} {es ifs : List Expr} {rest body els : List Stmt} {s s0 s1 s2 : Sl} {ss : List Sl} {d d1 d2 : D} {ds ds1 ds2 : List D} {i j : Int} {pos pos' p2 p apos : Pos} {x y m : Str} {out o1 : Out} {n : Nat} {q : Bool} {scope : Scope} {own : List (Str × Nat)}
/-! ### comprehensions -/
theorem ev_lc {α : Type} (xs : List α) (enc : α → D) (pr : α → Bool) (g : α → D) (Γe : α → List Sl) (hc : X.calm = true) (hN : X.N.Nodup) (ok : BlkOk X.N X.env.scope scope own) (hi : Ei X H0 Oc Γ tg iter (xs.map enc)) (hn : xs.length ≤ 1000000)
    (ht : ∀ x ∈ xs, ∀ H0' Oc' s0 H00 C cl fp, Tgw (blkX X scope s0 H00 C cl fp) H0' Oc' (own.map (·.2)) tg (wipeG (Γ.map Sl.arg) (own.map (·.2))) (.va (enc x)) (Γe x))
    (hst : ∀ x ∈ xs, stab (Γe x) = true ∧ Sub (wipeG (Γe x) (own.map (·.2))) (wipeG (Γ.map Sl.arg) (own.map (·.2))))
    (hp : ∀ x ∈ xs, ∀ H0' Oc' s0 H00 C cl fp, Ets (blkX X scope s0 H00 C cl fp) H0' Oc' (Γe x) ifs (pr x))
    (he : ∀ x ∈ xs, pr x = true → ∀ H0' Oc' s0 H00 C cl fp, Ev (blkX X scope s0 H00 C cl fp) H0' Oc' (Γe x) elt (.va (g x)))
    (hs : ∀ x, foldedSetIterable iter X.env x = pure x := by intro _; rfl) : Ev X H0 Oc Γ (.ListComp elt [⟨tg, iter, ifs, 0⟩] scope pos) (.ow (.lst ((xs.filter pr).map g))) := fun Δ τ σ H Q hl w k => by
  obtain ⟨wi, hpi, hwi⟩ := hi
  refine wpE.of (pe_lc (g := wG X scope tg) (tt := wT X scope ifs) (te := wE X scope elt) hc hN hpi ok (fun s0 H00 C cl fp => ⟨fun pins s σ H v u Q I r h => h s0 H00 C cl fp pins s u I r⟩) (fun s0 H00 C cl fp => pts_wT) (fun s0 H00 C cl fp => ⟨fun pins s σ H Q I h => h s0 H00 C cl fp pins s I⟩) hs) ?_
  exact lc_run xs enc pr g Γe hl w hwi hn ht hst hp he k
theorem sds_setLc {α : Type} (n : Nat) (xs : List α) (enc : α → D) (pr : α → Bool) (g : α → D) (Γe : α → List Sl) (hc : X.calm = true) (hN : X.N.Nodup) (ok : BlkOk X.N X.env.scope scope own) (hi : Ei X H0 Oc Γ tg iter (xs.map enc)) (hn : xs.length ≤ 1000000)
    (ht : ∀ x ∈ xs, ∀ H0' Oc' s0 H00 C cl fp, Tgw (blkX X scope s0 H00 C cl fp) H0' Oc' (own.map (·.2)) tg (wipeG (Γ.map Sl.arg) (own.map (·.2))) (.va (enc x)) (Γe x))
    (hst : ∀ x ∈ xs, stab (Γe x) = true ∧ Sub (wipeG (Γe x) (own.map (·.2))) (wipeG (Γ.map Sl.arg) (own.map (·.2))))
    (hp : ∀ x ∈ xs, ∀ H0' Oc' s0 H00 C cl fp, Ets (blkX X scope s0 H00 C cl fp) H0' Oc' (Γe x) ifs (pr x))
    (he : ∀ x ∈ xs, pr x = true → ∀ H0' Oc' s0 H00 C cl fp, Ev (blkX X scope s0 H00 C cl fp) H0' Oc' (Γe x) elt (.va (g x)))
    (hr : Sds X W H0 Oc (Γ.set n (.ow (.lst ((xs.filter pr).map g)))) rest out)
    (hy : X.N[n]? = some y) (hyl : X.env.scope.names.lookup y = some .local) (hk : X.env.scope.kind = .function := by rfl) (hln : (p.line == pos.line) = true := by rfl)
    (han : (scope.names.any fun (m, k) => m == y && (k == .local || k == .cell)) = false := by decide +kernel)
    (hs : ∀ x, foldedSetIterable iter X.env x = pure x := by intro _; rfl) : Sds X W H0 Oc Γ (.Assign [.Name y p] (.ListComp elt [⟨tg, iter, ifs, 0⟩] scope pos) pos' :: rest) out := fun Δ τ σ H D hl st w k => by
  obtain ⟨wi, hpi, hwi⟩ := hi
  refine wpSs.of (pss_cons (ps_setLc (g := wG X scope tg) (tt := wT X scope ifs) (te := wE X scope elt) hc hN hy hyl (sw_true hk hyl hln han) hpi ok (fun s0 H00 C cl fp => ⟨fun pins s σ H v u Q I r h => h s0 H00 C cl fp pins s u I r⟩) (fun s0 H00 C cl fp => pts_wT) (fun s0 H00 C cl fp => ⟨fun pins s σ H Q I h => h s0 H00 C cl fp pins s I⟩) hs) pss_wp) ?_
  exact lc_run xs enc pr g Γe hl w hwi hn ht hst hp he fun v H1 ⟨O, w1⟩ => hr Δ τ _ H1 D hl st ⟨O, w1.set hl⟩ k
theorem tgw_name {vs : List Nat} (n : Nat) (hN : X.N.Nodup) (hi : X.N[n]? = some x) (hx : Loc X.env.scope x) (hf : X.fn x = true ∨ X.env.scope.names.lookup x = some .local) (hv : n ∈ vs) : Tgw X H0 Oc vs (.Name x pos') Γ s (Γ.set n s) :=
  fun Δ τ σ H v Q hl ⟨O, w⟩ k => wpG.of (pg_name hN hi hx hf) (k _ H (wipe_set hv) ⟨O, w.set hl⟩)
/-! ### pairs as targets -/
theorem tg_tup2 {z : Str} {p3 : Pos} {kk : Nat} (n1 n2 : Nat) (hc : X.calm = true) (hN : X.N.Nodup) (h1 : X.N[n1]? = some x) (h2 : X.N[n2]? = some z) (hx : Loc X.env.scope x) (hz : Loc X.env.scope z) (hf : X.fn x = true ∨ X.env.scope.names.lookup x = some .local) (hg : X.fn z = true ∨ X.env.scope.names.lookup z = some .local) :
    Tg X H0 Oc (.Tuple [.Name x p, .Name z p2] kk p3) Γ (.va (.tup [d1, d2])) ((Γ.set n1 (.va d1)).set n2 (.va d2)) := fun Δ τ σ H v Q hl st ⟨O, w⟩ k => by
  refine wpG.of (pg_tup (n := 2) hc (pgs_cons (pg_name hN h1 hx hf) (pgs_cons (pg_name hN h2 hz hg) pgs_nil))) ?_
  obtain ⟨u, e, a, vs, rfl, ha, hr⟩ := w.head
  cases e
  obtain ⟨v1, us, rfl, r1, v2, us2, rfl, r2, e3⟩ := hr
  cases e3
  refine ⟨a, _, rfl, .of (cut_ex _ _ ha), rfl, v1, [v2], rfl, v2, [], rfl, rfl, k _ H ⟨O, ?_⟩⟩
  have w1 := (w.pop.push (s := .va d1) (y := some v1) ⟨v1, rfl, r1⟩ fun _ z => nomatch z).set (n := n1) hl
  exact (w1.push (s := .va d2) (y := some v2) ⟨v2, rfl, r2⟩ fun _ z => nomatch z).set (n := n2) hl
theorem tgw_tup2 {z : Str} {p3 : Pos} {kk : Nat} {vs : List Nat} (n1 n2 : Nat) (hc : X.calm = true) (hN : X.N.Nodup) (h1 : X.N[n1]? = some x) (h2 : X.N[n2]? = some z) (hx : Loc X.env.scope x) (hz : Loc X.env.scope z) (hf : X.fn x = true ∨ X.env.scope.names.lookup x = some .local) (hg : X.fn z = true ∨ X.env.scope.names.lookup z = some .local) (hv1 : n1 ∈ vs) (hv2 : n2 ∈ vs) :
    Tgw X H0 Oc vs (.Tuple [.Name x p, .Name z p2] kk p3) Γ (.va (.tup [d1, d2])) ((Γ.set n1 (.va d1)).set n2 (.va d2)) := fun Δ τ σ H v Q hl ⟨O, w⟩ k => by
  refine wpG.of (pg_tup (n := 2) hc (pgs_cons (pg_name hN h1 hx hf) (pgs_cons (pg_name hN h2 hz hg) pgs_nil))) ?_
  obtain ⟨u, e, a, vs', rfl, ha, hr⟩ := w.head
  cases e
  obtain ⟨v1, us, rfl, r1, v2, us2, rfl, r2, e3⟩ := hr
  cases e3
  refine ⟨a, _, rfl, .of (cut_ex _ _ ha), rfl, v1, [v2], rfl, v2, [], rfl, rfl, k _ H ((wipe_set hv2).trans (wipe_set hv1)) ⟨O, ?_⟩⟩
  have w1 := (w.pop.push (s := .va d1) (y := some v1) ⟨v1, rfl, r1⟩ fun _ z => nomatch z).set (n := n1) hl
  exact (w1.push (s := .va d2) (y := some v2) ⟨v2, rfl, r2⟩ fun _ z => nomatch z).set (n := n2) hl
/-! ### xs[i] = e -/
theorem sds_ix {ii : Int} {jj : Nat} {tp : Pos} (n : Nat) (h : Γ[n]? = some (.ow (.lst ds))) (hst : stab Γ = true) (he : Ev X H0 Oc Γ e (.va d)) (hi : Ev X H0 Oc Γ ie (.va (.int ii))) (hj : ixN ds.length ii = some jj) (hr : Sds X W H0 Oc (Γ.set n (.ow (.lst (ds.set jj d)))) rest out)
    (hN : X.N[n]? = some x) (hv : Vis X.env.scope x) (hd : (x == ("__debug__" : Str)) = false) (hcd : (x == ("__classdict__" : Str)) = false)
    (hss : swapsWithSole [.Subscript (.Name x p) ie tp] e pos.line X.env = pure false := by rfl) (hw : swappedStores [.Subscript (.Name x p) ie tp] e X.env = pure none := by rfl)
    (h1 : (assignEach [.Subscript (.Name x p) ie tp] X.env).map (·.2) = [assign (.Subscript (.Name x p) ie tp) X.env] := by rfl)
    (has : ∀ v, assign (.Subscript (.Name x p) ie tp) X.env v = (do
      let ov ← holding [v] (eval (.Name x p) X.env)
      let iv ← holding [v, ov] (eval ie X.env)
      standAt tp
      holding [v, ov, iv] (setItem ov iv v)
      release [v, ov, iv] []) := by intro _; rfl) :
    Sds X W H0 Oc Γ (.Assign [.Subscript (.Name x p) ie tp] e pos :: rest) out := fun Δ τ σ H D hl st w k => by
  refine wpSs.of (pss_cons (ps_asg pe_wp (pg_sub (pe_var hN hv hd hcd) pe_wp set_list has) hss hw h1) pss_wp) ?_
  refine he Δ τ σ H _ hl w fun v H1 ⟨O1, w1⟩ => ?_
  obtain ⟨y, hy, pp, oo, rfl, g2, g3, g4, g5⟩ := slot_of hl w1.pop h
  refine ⟨.ref pp, hy, ?_⟩
  refine hi (.va d :: Δ) (some v :: τ) σ H1 _ (by simp [hl]) ⟨O1, w1⟩ fun iv H2 ⟨O2, w2⟩ => ?_
  obtain ⟨iv', e1, r1⟩ := w2.head
  cases e1
  obtain rfl : iv = .int ii := r1
  obtain ⟨y', hy', q, u, e1, k2, k3, k4, k5⟩ := slot_of hl w2.pop.pop h
  rw [hy] at hy'
  cases hy'
  cases e1
  obtain ⟨v', e2, rv⟩ := w2.pop.head
  cases e2
  cases u <;> first | exact k5.elim | skip
  rename_i vs
  have k5' : Reps X.K (cut H2 O2) ds vs := k5
  refine ⟨pp, vs, ii, jj, rfl, rfl, k4, by rw [k5'.len]; exact hj, ?_⟩
  exact hr Δ τ σ _ D hl st ⟨O2, w2.pop.pop.mutN hl st hst h hy (o' := .lst (vs.set jj v)) (d' := .lst (ds.set jj d)) (Reps.set jj k5' rv)⟩ k
/-! ### the truth of a list or tuple -/
theorem et_seq (ha : Ev X H0 Oc Γ a (.bw d)) (hd : seqD d = some ds) (he : ∀ whole, isTrue a X.env whole = (do let v ← whole; standAt a.pos; holding [v] (truthy v)) := by intro _; rfl) : Et X H0 Oc Γ a (!ds.isEmpty) := fun Δ τ σ H Q hl w k =>
  wpT.of (pt_truth pe_wp he) (ha Δ τ σ H _ hl w fun v H' w' => by
    obtain ⟨⟨O, h⟩, w2⟩ := w'.popB
    obtain ⟨pp, vs, rfl, hq, r⟩ := h.seq hd
    have e : (!vs.isEmpty) = !ds.isEmpty := by
      have := r.len
      cases vs <;> cases ds <;> simp at this ⊢
    refine ⟨_, ?_, k H' w2⟩
    rcases hq with hq | hq
    · exact .inl ⟨vs, hq, e.symm⟩
    · exact .inr (.inl ⟨vs, hq, e.symm⟩))
/-! ### isinstance -/
def tyD : D → Option Value
  | .non => some (.type "NoneType")
  | .bl _ => some (.type "bool")
  | .int _ => some (.type "int")
  | .str _ => some (.type "str")
  | .tup _ => some (.type "tuple")
  | .lst _ => some (.type "list")
  | .dT _ _ => some (.type "dict")
  | .dK _ _ => some (.type "dict")
  | .obj C _ _ => some (.ref C)
  | .slf _ C _ _ => some (.ref C)
  | _ => none
structure IsC (K : PySem.W.Frag) (C : Addr) : Prop where
  cl : Cls K C
  ha : PySem.W.findIn K (.ref C) "__class__" = some (some (.builtin "object.__class__"))
  hn : PySem.W.specialIn K (.builtin "object.__class__") "__get__" = some (some (.builtin "getset_descriptor.__get__"))
  tk : PySem.W.takesIn K (.builtin "object.__class__") = some true
  hm : PySem.W.mroIn K C (.type "object") = some true
theorem RepB.ty {K : PySem.W.Frag} {Ht H H' : Hp} {v : V} {t : Value} (ex : Ex Ht H') (h : RepB K Ht H d v) (ht : tyD d = some t) (hc : ∀ C, t = .ref C → IsC K C) : TyX K H' v t := by
  cases d <;> first
    | (cases ht; done)
    | (have e := Option.some.inj ht; subst e; rw [show v = _ from h]; exact .base (by constructor))
    | skip
  · obtain ⟨pp, vs, rfl, h2, h3⟩ := h; cases ht; exact .base (.tup (ex _ _ h2))
  · obtain ⟨pp, vs, rfl, h2, h3⟩ := h; cases ht; exact .base (.lst (ex _ _ h2))
  · obtain ⟨pp, dx, fs, rfl, h2, h3⟩ := h
    cases ht
    have z := hc _ rfl
    exact .base (.ins (ex _ _ h2) z.cl z.ha z.hn z.tk z.hm)
  · obtain ⟨pp, vs, rfl, h2, h3⟩ := h; cases ht; exact .base (.dT (ex _ _ h2))
  · obtain ⟨pp, vs, rfl, h2, h3⟩ := h; cases ht; exact .base (.dK (ex _ _ h2))
  · obtain ⟨dx, fs, rfl, h2, h3⟩ := h
    cases ht
    have z := hc _ rfl
    exact .base (.ins (ex _ _ h2) z.cl z.ha z.hn z.tk z.hm)
/-- names of built-in classes and of one's own -/
theorem ev_ty {T : String} (hg : Gl X x) (hm : X.mg x = none) (hv : bootBuiltins x = some (.type T)) (hn : x ≠ "__name__" := by decide) (hdb : (x == ("__debug__" : Str)) = false := by decide) : Ev X H0 Oc Γ (.Name x pos) (.va (.opq (.ty T))) :=
  ev_flat (pe_bltn (v := .ty T) hg hm hv rfl hn hdb) (fun _ _ _ q => q) rfl fun _ => rfl
theorem ev_cls {C : Addr} (hg : Gl X x) (hm : X.mg x = some (.ref C)) (hdb : (x == ("__debug__" : Str)) = false := by decide) : Ev X H0 Oc Γ (.Name x pos) (.va (.opq (.ref C))) :=
  ev_flat (pe_glob (v := .ref C) hg hm rfl hdb) (fun _ _ _ q => q) rfl fun _ => rfl
theorem ev_isi {cv : V} {u t : Value} (ha : Ev X H0 Oc Γ a (.bw d)) (hb : Ev X H0 Oc Γ b (.va (.opq cv))) (k : ClsV cv u) (ht : tyD d = some t) (hk : PySem.W.kitOne X.K t u = some q) (hm : X.mg "isinstance" = none) (hc : ∀ C, t = .ref C → IsC X.K C) (hg : Gl X "isinstance")
    (he : starEach [a, b] X.env = (false, eval a X.env) :: starEach [b] X.env) (he2 : starEach [b] X.env = (false, eval b X.env) :: starEach [] X.env) (hpl : (backTo pos (starEach [b] X.env)).any (·.1) = false) : Ev X H0 Oc Γ (.Call (.Name "isinstance" p) [a, b] [] pos) (.va (.bl q)) := fun Δ τ σ H Q hl w kk =>
  wpE.of (pe_callB call_isi hg hm (by decide +kernel) (pa_cons pe_wp (pa_cons pe_wp pa_nil he2) he) (by decide) (by decide) he hpl) (ha Δ τ σ H _ hl w fun v H1 w1 =>
    hb (.bw d :: Δ) (some v :: τ) σ H1 _ (by simp [hl]) w1 fun z H2 ⟨O, w2⟩ => by
      obtain ⟨z', e1, r1⟩ := w2.head
      cases e1
      obtain rfl : z = cv := r1
      obtain ⟨v', e2, r2⟩ := w2.pop.head
      cases e2
      exact ⟨v, z, t, u, q, rfl, k, r2.ty (fun _ _ z => z) ht hc, hk, kk _ H2 ⟨O, w2.pop.pop.flat (d := .bl q) (H' := H2) rfl rfl⟩⟩)
/-! ### an error that an except suite holds -/
structure XcE (K : PySem.W.Frag) (C : Addr) : Prop where
  xf : XfC K C
  cl : (PySem.W.clsIn K C).isSome = true
  ha : PySem.W.findIn K (.ref C) "__class__" = some (some (.builtin "object.__class__"))
  hn : PySem.W.specialIn K (.builtin "object.__class__") "__get__" = some (some (.builtin "getset_descriptor.__get__"))
  tk : PySem.W.takesIn K (.builtin "object.__class__") = some true
  hm : PySem.W.mroIn K C (.type "object") = some true
def rIsiE (a C dd : Addr) (K : PySem.W.Frag) : List V → Hp → VK → Prop := fun xs H Q => ∃ c u b fs, xs = [.ref a, c] ∧ H dd = some (.xd fs) ∧ ClsV c u ∧ PySem.W.kitOne K (.ref C) u = some b ∧ Q (.bl b) H
theorem call_isiE {a C dd : Addr} {oe : Obj} {pn : List (Addr × Obj)} (T : XcE X.K C) (hz : L2N.Zn (.ref C) (some dd) oe) (hf : ∃ vs, oe.data = .fields vs) : CallR (X.suite a ((a, oe) :: pn)) (.builtin "isinstance") (rIsiE a C dd X.K) := by
  intro pins s σ H xs us Q I r h
  obtain ⟨c, u, b, fs, rfl, ea, k, e, q⟩ := h
  obtain ⟨u1, u2, rfl, r1, r2⟩ := vals2 r
  have e2 := k.eq r2
  subst e2
  obtain rfl : u1 = Value.ref a := r1
  obtain ⟨hA, _⟩ := I.pin (a, oe) (List.mem_append_left _ List.mem_cons_self)
  obtain ⟨vs, hd⟩ := hf
  have hx : ObjOk X.prog X.w H s.heap dd (.xd fs) := I.hok dd _ ea
  obtain ⟨mA, hns, hr⟩ := hx
  obtain ⟨od, ho, hl⟩ := lookIn_ns hns
  have J : PySem.W.InstAt s.heap a oe C (some od) := ⟨hA, hz.1, by unfold PySem.W.notCls; rw [hd] <;> rfl, by rw [hz.2.1]; exact ho⟩
  exact PySem.W.kia_one (PySem.W.kitx_exc T.cl T.xf.ga T.xf.gg T.xf.exC T.ha T.hn T.tk T.hm) I.kIn J e (fun z => nomatch z) fun tk => ⟨.bl b, H, I.tok tk, rfl, q⟩
theorem ev_isiE {ad C dd : Addr} {oe : Obj} {pn : List (Addr × Obj)} {cv : V} {u : Value} {ns : List Str} (T : XcE X.K C) (hz : L2N.Zn (.ref C) (some dd) oe) (hf : ∃ vs, oe.data = .fields vs) (ha : Ev (X.suite ad ((ad, oe) :: pn)) H0 Oc Γ a (.va (.er ad C dd ns ds))) (hb : Ev (X.suite ad ((ad, oe) :: pn)) H0 Oc Γ b (.va (.opq cv)))
    (k : ClsV cv u) (hk : PySem.W.kitOne X.K (.ref C) u = some q) (hm : X.mg "isinstance" = none) (hg : Gl X "isinstance")
    (he : starEach [a, b] X.env = (false, eval a X.env) :: starEach [b] X.env) (he2 : starEach [b] X.env = (false, eval b X.env) :: starEach [] X.env) (hpl : (backTo pos (starEach [b] X.env)).any (·.1) = false) : Ev (X.suite ad ((ad, oe) :: pn)) H0 Oc Γ (.Call (.Name "isinstance" p) [a, b] [] pos) (.va (.bl q)) := fun Δ τ σ H Q hl w kk =>
  wpE.of (pe_callB (X := X.suite ad ((ad, oe) :: pn)) (call_isiE T hz hf) hg hm (by decide +kernel) (pa_cons pe_wp (pa_cons pe_wp pa_nil he2) he) (by decide) (by decide) he hpl) (ha Δ τ σ H _ hl w fun v H1 w1 =>
    hb (.va (.er ad C dd ns ds) :: Δ) (some v :: τ) σ H1 _ (by simp [hl]) w1 fun z H2 ⟨O, w2⟩ => by
      obtain ⟨z', e1, r1⟩ := w2.head
      cases e1
      obtain rfl : z = cv := r1
      obtain ⟨v', e2, fs, rfl, h2, h3⟩ := w2.pop.head
      cases e2
      exact ⟨z, u, q, fs, rfl, cut_ex _ _ h2, k, hk, kk _ H2 ⟨O, w2.pop.pop.flat (d := .bl q) (H' := H2) rfl rfl⟩⟩)
/-- e.f -/
theorem ev_xf {ad C dd : Addr} {oe : Obj} {pn : List (Addr × Obj)} {f : Str} {ns : List Str} (T : XfC X.K C) (hno : PySem.W.findIn X.K (.ref C) f = some none) (hz : L2N.Zn (.ref C) (some dd) oe) (hf : ∃ vs, oe.data = .fields vs) (ha : Ev (X.suite ad ((ad, oe) :: pn)) H0 Oc Γ a (.va (.er ad C dd ns ds)))
    (hi : (ns.zip ds).lookup f = some d) (hab : attributeBase a f X.env (eval a X.env) = eval a X.env := by rfl) : Ev (X.suite ad ((ad, oe) :: pn)) H0 Oc Γ (.Attribute a f pos) (.va d) := fun Δ τ σ H Q hl w kk =>
  wpE.of (pe_xf T hno hz.zc hf pe_wp hab) (ha Δ τ σ H _ hl w fun v H1 ⟨O, w1⟩ => by
    obtain ⟨v', e2, fs, rfl, h2, h3, h4⟩ := w1.head
    cases e2
    subst h3
    obtain ⟨z, hz, rz⟩ := h4.look hi
    exact ⟨rfl, rfl, dd, fs, z, rfl, cut_ex _ _ h2, hz, kk z H1 ⟨O, w1.pop.push ⟨z, rfl, rz⟩ fun _ z => nomatch z⟩⟩)
end
end Y

namespace Y
open PySem L2
/-! ### calls that may let an exception out: C(..), a op b -/
section
variable {X : Cx} {CX : CXT} {k : Nat} {f C : Addr} {fd : FuncData} {ps : List Str} {sp : Sp} {E : L2.St → XK} {x m : Str} {p pos apos : Pos} {a b e o : Expr} {es : List Expr} {ta tb : TE} {t : TA} {op : Operator}
theorem run_makeS {pins : List (Addr × Obj)} {σ : L2.St} {H : Hp} {s : Shared} {Q : VK} {us : List Value} {vs : List V} (M : Mk X.K C f) (Fi : FnOk X.prog X.w X.K X.mg X.base CX k f fd ps sp) (hr : Room (k + 1) X.A) (hb : L2.Binds X.K fd ps [])
    (hx : PassesAt CX X σ (E σ)) (I : Inv X pins σ H s) (r : Vals vs us)
    (h : ∀ y dx, H y = none → H dx = none → dx ≠ y → sp (.ref y :: vs) (upd (upd H dx (.own y)) y (.ins C dx [])) (fun v H2 => v = .non ∧ Q (.ref y) H2) (E σ)) :
    wpAny (model X.prog X.w) X.A (call (.ref C) us) (EP X pins σ Q) X.xe s := by
  -- the two new places
  obtain ⟨n, hn⟩ : ∃ n, s.heap.objs.size = n := ⟨_, rfl⟩
  have pr := h (n + 1) n (I.hok.fresh (by omega)) (I.hok.fresh (by omega)) (Nat.ne_of_lt (Nat.lt_succ_self n))
  have J := Inv.made (C := C) I
  rw [hn] at J
  have rv : Vals (V.ref (n + 1) :: vs) (Value.ref (n + 1) :: us) := .cons rfl r
  have len : (Value.ref (n + 1) :: us).length = ps.length := rv.length.symm.trans (Fi.len _ _ _ _ pr)
  have bb := hb _ _ J.kIn (by rw [List.append_nil]; exact len)
  rw [List.append_nil] at bb
  subst hn
  apply wpAny_call
  refine make_map (f := f) I.kIn M.makes M.init (beq_iff_eq.mp M.fn) ?_
  refine codeAny_mono (Fi.run _ X.stack _ _ _ _ _ _ _ (hr.make C us []) (J.env0.make C us []) bb rv pr) fun r s' done => ?_
  match r, done with
  | .error er, done => exact hx pins _ _ er s' J done
  | .ok .next, done => exact done.elim
  | .ok .brk, done => exact done.elim
  | .ok .cont, done => exact done.elim
  | .ok (.ret u), done =>
    obtain ⟨v, H', I3, rv3, isN, q3⟩ := J.after done
    subst isN
    exact ⟨rv3, ⟨V.ref (s.heap.objs.size + 1), H', I3, rfl, q3⟩⟩
def tMakeS (C : Addr) (sp : Sp) (E : L2.St → XK) (t : TA) : TE := fun σ H Q => t σ H fun vs H1 => ∀ y dx, H1 y = none → H1 dx = none → dx ≠ y → sp (.ref y :: vs) (upd (upd H1 dx (.own y)) y (.ins C dx [])) (fun v H2 => v = .non ∧ Q (.ref y) H2) (E σ)
theorem pe_makeS (M : Mk X.K C f) (Fi : FnOk X.prog X.w X.K X.mg X.base CX k f fd ps sp) (hr : Room (k + 1) X.A) (hg : Gl X x) (hm : X.mg x = some (.ref C)) (hb : L2.Binds X.K fd ps []) (hx : ∀ σ, PassesAt CX X σ (E σ)) (ha : PA X (e :: es) t)
    (hdb : (x == ("__debug__" : Str)) = false) (he : starEach (e :: es) X.env = (false, eval e X.env) :: starEach es X.env) (hpl : (backTo pos (starEach es X.env)).any (·.1) = false) : PE X (.Call (.Name x p) (e :: es) [] pos) (tMakeS C sp E t) :=
  ⟨fun pins s σ H Q I h => wpAny_Call_Name_kw (ld_glob I hg hm
    (PySem.W.callWith_K (h₀ := X.base) I.ok.mod.kin M.kp (thn (ha.run pos pins s σ H _ I h) fun us s1 ⟨vs, H1, I1, r, q⟩ => ⟨I1.kIn, run_makeS M Fi hr hb (hx σ) I1 r q⟩) he hpl) hdb)⟩
def tOwnS (C : Addr) (sp : Sp) (E : L2.St → XK) (ta tb : TE) : TE := fun σ H Q => ta σ H fun x H1 => tb σ H1 fun y H2 => Own.rOwn C sp (E σ) x y H2 Q
theorem pe_ownS (hc : PySem.W.selfFirst X.K C = true) (hs : PySem.W.findIn X.K (.ref C) (PySem.dunder op.info.2) = some (some (.ref f))) (hf : PySem.W.isFn X.K (.ref f) = true)
    (Fi : FnOk X.prog X.w X.K X.mg X.base CX k f fd ps sp) (hr : Room k X.A) (hb : L2.Binds X.K fd ps []) (hx : ∀ σ, PassesAt CX X σ (E σ)) (ha : PE X a ta) (hb2 : PE X b tb) : PE X (.BinOp a op b pos) (tOwnS C sp E ta tb) := by
  refine ⟨fun pins s σ H Q I h => wpAny_BinOp (binT ha hb2 I h fun v u s2 x y H2 I2 rx ry q => ?_)⟩
  obtain ⟨aa, dx, fs, bb, dy, gs, rfl, rfl, ea, eb, q⟩ := q
  cases rx
  cases ry
  obtain ⟨_, Oa, _⟩ := ins_get I2.hok ea
  obtain ⟨_, Ob, _⟩ := ins_get I2.hok eb
  obtain ⟨_, Ja, _⟩ := Oa.look
  obtain ⟨_, Jb, _⟩ := Ob.look
  obtain ⟨_, fr⟩ := I2.fr
  refine PySem.W.binop_K fr I2.ok.mod.kin Ja Jb.type hc hs hf ?_
  exact thn (run_fnS (us := [.ref aa, .ref bb]) (vs := [.ref aa, .ref bb]) Fi hr hb (hx σ) I2 (.cons rfl (.cons rfl .nil)) q) fun r s' ⟨v', H', I', r', q'⟩ => Own.back_of r' ⟨v', H', I', r', q'⟩
end
section
variable {X : Cx} {W : WX} {H0 : Hp} {Oc : List Addr} {Γ Γ1 Γ' : List Sl} {e a b c o tg iter elt ie : Expr} {es ifs : List Expr} {rest body els : List Stmt} {s s0 s1 s2 : Sl} {ss : List Sl} {d d1 d2 : D} {ds ds1 ds2 : List D} {i j : Int} {pos pos' p2 p apos : Pos} {x y m f g : Str} {out o1 : Out} {n : Nat} {q : Bool} {k : Nat} {ps : List Str} {P : Pm} {C C1 : Addr} {ns : List Str}
/-- C(..), an __init__ that raises -/
theorem exx_make {Γe : Option (List Sl)} (tk : L2N.Takes X W) (F : ClG X.prog X.w X.K X.mg X.base x C k ps P) (hr : Room (k + 1) X.A) (ha : Ea X H0 Oc Γ (e :: es) ss) (hp : P (ss.map Sl.arg) (.exc C1 ns ds Γe)) (hg : Gl X x := by rfl) (hdb : (x == ("__debug__" : Str)) = false := by decide)
    (he : starEach (e :: es) X.env = (false, eval e X.env) :: starEach es X.env := by rfl) (hpl : (backTo pos (starEach es X.env)).any (·.1) = false := by rfl) : Exx X W H0 Oc Γ (.Call (.Name x p) (e :: es) [] pos) C1 ns ds := fun Δ τ σ H Q hl w q => by
  obtain ⟨fi, fd, Fi, hM, hm, hb⟩ := F.ex
  refine wpE.of (pe_makeS (E := WE W) hM Fi hr hg hm hb (fun σ => L2N.passAt tk σ) pa_wp hdb he hpl) ?_
  refine ha Δ τ σ H _ hl w fun vs O H1 w1 ok => ?_
  intro yy dx ny ndx ne
  exact ⟨H1, O, _, _, _, _, hp, rfl, WfO.making (w1.callee ok) ny ndx ne, fun d H' w2 => q d H' (w1.after w2 rfl)⟩
/-- a op b, own classes -/
theorem ev_own {op : Operator} {ns1 : List Str} (hc : PySem.W.selfFirst X.K C = true) (F : MtG X.prog X.w X.K X.mg X.base C (PySem.dunder op.info.2) k ps P) (hr : Room k X.A) (ha : Ev X H0 Oc Γ a s1) (hd1 : s1.dat = some (.obj C ns ds1)) (hb : Ev X H0 Oc Γ b s2) (hd2 : s2.dat = some (.obj C ns1 ds2))
    (hp : P [s1.arg, s2.arg] (.ret s)) (hs : s.res = true := by rfl) : Ev X H0 Oc Γ (.BinOp a op b pos) s := fun Δ τ σ H Q hl w q => by
  obtain ⟨fi, fd, Fi, hM, hbd⟩ := F.ex
  refine wpE.of (pe_op (Own.op_own (E := E0) hc hM.at_ hM.fn Fi hr hbd passLN) pe_wp pe_wp) ?_
  refine ha Δ τ σ H _ hl w fun v H1 w1 => ?_
  refine hb (s1 :: Δ) (some v :: τ) σ H1 _ (by simp [hl]) w1 fun u H2 ⟨O, w2⟩ => ?_
  obtain ⟨r2, dx2, fs2, rfl, g2, g3, g4⟩ := (w2.head.b w2.ex hd2 : RepB _ _ _ (.obj C ns1 ds2) u)
  obtain ⟨r1, dx1, fs1, rfl, k2, k3, k4⟩ := (w2.pop.head.b w2.ex hd1 : RepB _ _ _ (.obj C ns ds1) v)
  refine ⟨r1, dx1, fs1, r2, dx2, fs2, rfl, rfl, k2, g2, O, [s1.arg, s2.arg], _, hp, ?_, fun v H' w3 => q v H' (w2.pop.pop.after w3 hs)⟩
  exact w2.callee (ss := [s1, s2]) (vs := [.ref r1, .ref r2]) ⟨_, _, rfl, w2.pop.head, _, _, rfl, w2.head, rfl⟩
theorem exx_own {op : Operator} {ns1 : List Str} {Γe : Option (List Sl)} {xs : List Str} (tk : L2N.Takes X W) (hc : PySem.W.selfFirst X.K C = true) (F : MtG X.prog X.w X.K X.mg X.base C (PySem.dunder op.info.2) k ps P) (hr : Room k X.A) (ha : Ev X H0 Oc Γ a s1) (hd1 : s1.dat = some (.obj C ns ds1)) (hb : Ev X H0 Oc Γ b s2) (hd2 : s2.dat = some (.obj C ns1 ds2))
    (hp : P [s1.arg, s2.arg] (.exc C1 xs ds Γe)) : Exx X W H0 Oc Γ (.BinOp a op b pos) C1 xs ds := fun Δ τ σ H Q hl w q => by
  obtain ⟨fi, fd, Fi, hM, hbd⟩ := F.ex
  refine wpE.of (pe_ownS (E := WE W) hc hM.at_ hM.fn Fi hr hbd (fun σ => L2N.passAt tk σ) pe_wp pe_wp) ?_
  refine ha Δ τ σ H _ hl w fun v H1 w1 => ?_
  refine hb (s1 :: Δ) (some v :: τ) σ H1 _ (by simp [hl]) w1 fun u H2 ⟨O, w2⟩ => ?_
  obtain ⟨r2, dx2, fs2, rfl, g2, g3, g4⟩ := (w2.head.b w2.ex hd2 : RepB _ _ _ (.obj C ns1 ds2) u)
  obtain ⟨r1, dx1, fs1, rfl, k2, k3, k4⟩ := (w2.pop.head.b w2.ex hd1 : RepB _ _ _ (.obj C ns ds1) v)
  refine ⟨r1, dx1, fs1, r2, dx2, fs2, rfl, rfl, k2, g2, O, [s1.arg, s2.arg], _, hp, ?_, fun d H' w3 => q d H' (w2.pop.pop.after w3 rfl)⟩
  exact w2.callee (ss := [s1, s2]) (vs := [.ref r1, .ref r2]) ⟨_, _, rfl, w2.pop.head, _, _, rfl, w2.head, rfl⟩
/-! ### statements whose expression raises -/
theorem sds_setX {pos2 : Pos} (hN : X.N.Nodup) (hi : X.N[n]? = some x) (hx : Loc X.env.scope x) (he : Exx X W H0 Oc Γ e C ns ds) (hs : swapsWith e (some (.Name x pos2)) pos.line X.env = pure false) (hf : X.fn x = true ∨ X.env.scope.names.lookup x = some .local) :
    Sds X W H0 Oc Γ (.Assign [.Name x pos2] e pos :: rest) (.exc C ns ds (some Γ)) := fun Δ τ σ H D hl st w k => wpSs.of (pss_cons (ps_set hN hi hx pe_wp hs hf) pss_wp) (he Δ τ σ H _ hl w fun d H1 w1 => k d σ H1 w1)
theorem sds_exprX (he : Exx X W H0 Oc Γ e C ns ds) (hs : swapsWith e none pos.line X.env = pure false := by rfl) : Sds X W H0 Oc Γ (.Expr e pos :: rest) (.exc C ns ds (some Γ)) := fun Δ τ σ H D hl st w k =>
  wpSs.of (pss_cons (ps_expr pe_wp hs) pss_wp) (he Δ τ σ H _ hl w fun d H1 w1 => k d σ H1 w1)
theorem sds_retX (he : Exx X W H0 Oc Γ e C ns ds) : Sds X W H0 Oc Γ (.Return (some e) pos :: rest) (.exc C ns ds (some Γ)) := fun Δ τ σ H D hl st w k =>
  wpSs.of (pss_cons (ps_ret pe_wp) pss_wp) (he Δ τ σ H _ hl w fun d H1 w1 => k d σ H1 w1)
theorem Sds.low {st : List Stmt} {Γe : Option (List Sl)} (h : Sds X W H0 Oc Γ st (.exc C ns ds Γe)) : Sds X W H0 Oc Γ st (.exc C ns ds none) := fun Δ τ σ H D hl hst w k => h Δ τ σ H D hl hst w (by
  intro d σ' H' xw
  cases Γe with
  | none => exact k d σ' H' xw
  | some Γ2 => exact k d σ' H' (show Wf _ _ _ _ _ _ from Wf.only (show Wf X.K H0 Oc (.va (.xd ns ds) :: (Δ ++ Γ2)) (some (.ref d) :: (τ ++ σ')) H' from xw)))
/-! ### raise -/
theorem WfO.newXd {K : PySem.W.Frag} {O : List Addr} {G : List Sl} {S : List (Option V)} {H : Hp} {pp : Addr} {fs : List (Str × V)} (w : WfO K H0 Oc O G S H) (hp : H pp = none) (hn : fs.map (·.1) = ns) (h : Reps K (cut H O) ds (fs.map (·.2))) : WfO K H0 Oc O (.va (.xd ns ds) :: G) (some (.ref pp) :: S) (upd H pp (.xd fs)) := by
  have np : pp ∉ O := fun z => w.live pp z hp
  refine (w.grow (Ex.new hp)).push ⟨.ref pp, rfl, pp, fs, rfl, ?_, hn, Reps.mono (cut_mono (Ex.new hp)) h⟩ fun _ z => nomatch z
  rw [cut_out np]
  exact upd_same
theorem sds_raise1 {pos2 : Pos} (hc : X.calm = true) (tk : L2N.Takes X W) (T : Sup.Ex1 X.prog X.K X.mg x f C) (hr : Room 2 X.A) (hg : Gl X x) (he : Ev X H0 Oc Γ e (.va d))
    (hdb : (x == ("__debug__" : Str)) = false := by decide) (hst : starEach [e] X.env = (false, eval e X.env) :: starEach [] X.env := by rfl) (hpl : (backTo pos (starEach [] X.env)).any (·.1) = false := by rfl) :
    Sds X W H0 Oc Γ (.Raise (some (.Call (.Name x p) [e] [] pos)) none pos2 :: rest) (.exc C [f] [d] (some Γ)) := fun Δ τ σ H D hl st w k => by
  refine wpSs.of (pss_cons (L2N.ps_raise hc tk (Sup.pmk_1 T hr hg (pa_cons pe_wp pa_nil hst) hdb hst hpl)) pss_wp) ?_
  refine he Δ τ σ H _ hl w fun v H1 ⟨O, w1⟩ => ?_
  obtain ⟨v', e1, rv⟩ := w1.head
  cases e1
  exact ⟨v, rfl, fun dd nd => k dd σ _ ⟨O, w1.pop.newXd (ns := [f]) (ds := [d]) nd rfl ⟨v, [], rfl, rv, rfl⟩⟩⟩
theorem sds_raise2 {pos2 : Pos} (hc : X.calm = true) (tk : L2N.Takes X W) (T : Sup.Ex2 X.prog X.K X.mg x f g C) (hr : Room 2 X.A) (hg : Gl X x) (he : Ev X H0 Oc Γ a (.va d1)) (he2 : Ev X H0 Oc Γ b (.va d2))
    (hdb : (x == ("__debug__" : Str)) = false := by decide) (hst : starEach [a, b] X.env = (false, eval a X.env) :: starEach [b] X.env := by rfl) (hst2 : starEach [b] X.env = (false, eval b X.env) :: starEach [] X.env := by rfl) (hpl : (backTo pos (starEach [b] X.env)).any (·.1) = false := by rfl) :
    Sds X W H0 Oc Γ (.Raise (some (.Call (.Name x p) [a, b] [] pos)) none pos2 :: rest) (.exc C [g, f] [d2, d1] (some Γ)) := fun Δ τ σ H D hl st w k => by
  refine wpSs.of (pss_cons (L2N.ps_raise hc tk (Sup.pmk_2 T hr hg (pa_cons pe_wp (pa_cons pe_wp pa_nil hst2) hst) hdb hst hpl)) pss_wp) ?_
  refine he Δ τ σ H _ hl w fun v H1 w1 => ?_
  refine he2 (.va d1 :: Δ) (some v :: τ) σ H1 _ (by simp [hl]) w1 fun u H2 ⟨O, w2⟩ => ?_
  obtain ⟨u', e1, ru⟩ := w2.head
  cases e1
  obtain ⟨v', e1, rv⟩ := w2.pop.head
  cases e1
  exact ⟨v, u, rfl, fun dd nd => k dd σ _ ⟨O, w2.pop.pop.newXd (ns := [g, f]) (ds := [d2, d1]) nd rfl ⟨u, [v], rfl, ru, v, [], rfl, rv, rfl⟩⟩⟩
/-! ### try: body except x as n: suite -/
def wNo : WX := fun _ _ _ _ => False
def SuiteOk (X : Cx) (W : WX) (H0 : Hp) (Oc : List Addr) (n : Nat) (rest : List Stmt) (out : Out) : Out → Prop
  | .nx Γ2 => Sds X W H0 Oc (Γ2.set n .no) rest out
  | .ret s => out = .ret s
  | .brk Γ2 => out = .brk (Γ2.set n .no)
  | .cnt Γ2 => out = .cnt (Γ2.set n .no)
  | .exc _ _ _ _ => False
def TryOk (X : Cx) (W : WX) (H0 : Hp) (Oc : List Addr) (n : Nat) (c : Value) (suite rest : List Stmt) (out : Out) : Out → Prop
  | .nx Γ1 => Sds X W H0 Oc Γ1 rest out
  | .ret s => out = .ret s
  | .brk Γ1 => out = .brk Γ1
  | .cnt Γ1 => out = .cnt Γ1
  | .exc C ns ds (some Γe) => (PySem.W.exmOne X.K (.ref C) c = some true ∧ ∀ (a : Addr) (oe : Obj) (d : Addr) (pn : List (Addr × Obj)), L2N.Zn (.ref C) (some d) oe → (∃ vs, oe.data = .fields vs) →
      ∃ os, Sds (X.suite a ((a, oe) :: pn)) wNo H0 Oc (Γe.set n (.va (.er a C d ns ds))) suite os ∧ SuiteOk X W H0 Oc n rest out os) ∨ (PySem.W.exmOne X.K (.ref C) c = some false ∧ out = .exc C ns ds (some Γe))
  | .exc _ _ _ none => False
theorem sds_try {cv : Value} {b0 : Stmt} {suite : List Stmt} {np : Pos} {ob : Out} (hs : X.stack = X.env :: X.outer) (hf : X.env.frame = some X.env.locals) (hN : X.N.Nodup) (hi : X.N[n]? = some y) (hln : X.env.kindOf y = some .local) (hc : Names X x cv) (tk : L2N.Takes X W)
    (hb : ∀ (W' : WX) (pn : List (Addr × Obj)) (xe : Value → Shared → Prop), L2N.Takes (X.tr pn xe) W' → PassesOwn (model X.prog X.w) X.A X.env xe → Sds (X.tr pn xe) W' H0 Oc Γ body ob) (h : TryOk X W H0 Oc n cv (b0 :: suite) rest out ob) :
    Sds X W H0 Oc Γ (.Try body [.ExceptHandler (some (.Name x np)) (some y) (b0 :: suite) pos'] [] [] pos :: rest) out := fun Δ τ σ H D hl st w k => by
  refine wpSs.of (pss_cons (L2N.ps_try_as (tb := fun W' D σ H => ∀ (pn : List (Addr × Obj)) (xe : Value → Shared → Prop), L2N.Takes (X.tr pn xe) W' → PassesOwn (model X.prog X.w) X.A X.env xe → wpSs (X.tr pn xe) body D σ H)
    (ts := fun a cls d D σ H => ∀ (oe : Obj) (pn : List (Addr × Obj)), L2N.Zn cls d oe → (∃ vs, oe.data = .fields vs) → wpSs (X.suite a ((a, oe) :: pn)) (b0 :: suite) D σ H) hs hf hN hi hln hc tk
    (fun W' pn xe t po => ⟨fun pins s σ H D I h => h pn xe t po pins s I⟩) (fun a oe cls d pn z f => ⟨fun pins s σ H D I h => h oe pn z f pins s I⟩)) pss_wp) ?_
  intro pn xe t po
  refine hb _ pn xe t po Δ τ σ H _ hl st w ?_
  match ob, h with
  | .nx Γ1, h => exact fun σ' H' w' => h Δ τ σ' H' D hl st w' k
  | .ret s, h =>
    subst h
    exact k
  | .brk Γ1, h =>
    subst h
    exact k
  | .cnt Γ1, h =>
    subst h
    exact k
  | .exc C ns ds (some Γe), h =>
    intro d σ' H' xw
    have xw' : Wf X.K H0 Oc (.va (.xd ns ds) :: (Δ ++ Γe)) (some (.ref d) :: (τ ++ σ')) H' := xw
    rcases h with ⟨hm, h⟩ | ⟨hm, h⟩
    · refine ⟨true, hm, fun _ aa na => ?_, (fun z => nomatch z)⟩
      intro oe pn2 z f
      obtain ⟨os, h1, h2⟩ := h aa oe d pn2 z f
      obtain ⟨O, w1⟩ := xw'
      obtain ⟨v, e1, d', fs, e2, g2, g3, g4⟩ := w1.head
      cases e1
      cases e2
      have w2 := (w1.pop.push (s := .va (.er aa C d ns ds)) (y := some (.ref aa)) ⟨.ref aa, rfl, fs, rfl, g2, g3, g4⟩ fun _ z => nomatch z).set (n := n) hl
      refine h1 Δ τ _ H' _ hl st ⟨O, w2⟩ ?_
      match os, h2 with
      | .nx Γ2, h2 => exact fun σ4 H4 w4 => h2 Δ τ _ H4 D hl st (w4.unset hl) k
      | .ret s, h2 =>
        subst h2
        exact k
      | .brk Γ2, h2 =>
        subst h2
        exact fun σ4 H4 w4 => k _ H4 (w4.unset hl)
      | .cnt Γ2, h2 =>
        subst h2
        exact fun σ4 H4 w4 => k _ H4 (w4.unset hl)
    · refine ⟨false, hm, (fun z => nomatch z), fun _ => ?_⟩
      subst h
      exact k d σ' H' xw
/-! ### self.f = e -/
def D.own : D → Option (Addr × List Str × List D)
  | .obj C ns ds => some (C, ns, ds)
  | .slf _ C ns ds => some (C, ns, ds)
  | _ => none
def D.put : D → List Str → List D → D
  | .obj C _ _, ns, ds => .obj C ns ds
  | .slf q C _ _, ns, ds => .slf q C ns ds
  | d, _, _ => d
theorem RepH.own {K : PySem.W.Frag} {H : Hp} {a : Addr} {o : HO} (h : RepH K H d a o) (hd : d.own = some (C, ns, ds)) : ∃ dx fs, o = .ins C dx fs ∧ fs.map (·.1) = ns ∧ Reps K H ds (fs.map (·.2)) ∧ ∀ dx' fs', Reps K H ds1 (fs'.map (·.2)) → RepH K H (d.put (fs'.map (·.1)) ds1) a (.ins C dx' fs') := by
  cases d <;> first
    | (cases hd; done)
    | skip
  · cases hd
    cases o <;> first | exact h.elim | skip
    obtain ⟨rfl, h1, h2⟩ := h
    exact ⟨_, _, rfl, h1, h2, fun dx' fs' h3 => ⟨rfl, rfl, h3⟩⟩
  · cases hd
    cases o <;> first | exact h.elim | skip
    obtain ⟨⟨rfl, rfl⟩, h1, h2⟩ := h
    exact ⟨_, _, rfl, h1, h2, fun dx' fs' h3 => ⟨⟨rfl, rfl⟩, rfl, h3⟩⟩
theorem putF_new {v : V} : ∀ {fs : List (Str × V)}, f ∉ fs.map (·.1) → putF f v fs = fs ++ [(f, v)]
  | [], _ => rfl
  | (g, u) :: r, h => by
    unfold putF
    rw [if_neg fun z => h (by rw [← z]; exact List.mem_cons_self), putF_new fun z => h (List.mem_cons_of_mem _ z)]
    rfl
/-- a new field -/
theorem sds_fld {pp : Pos} (n : Nat) (h : Γ[n]? = some (.ow d)) (ho : d.own = some (C, ns, ds)) (hst : stab Γ = true) (cl : Cls X.K C) (na : NoAttr X.K C f) (hf : f ∉ ns) (hlen : ns.length < 1000) (he : Ev X H0 Oc Γ e (.va d1)) (hr : Sds X W H0 Oc (Γ.set n (.ow (d.put (ns ++ [f]) (ds ++ [d1])))) rest out)
    (hN : X.N[n]? = some x) (hv : Vis X.env.scope x) (hd : (x == ("__debug__" : Str)) = false) (hcd : (x == ("__classdict__" : Str)) = false)
    (hs : swapsWith e (some (.Attribute (.Name x p) f pp)) pos.line X.env = pure false := by rfl) : Sds X W H0 Oc Γ (.Assign [.Attribute (.Name x p) f pp] e pos :: rest) out := fun Δ τ σ H D hl st w k => by
  refine wpSs.of (pss_cons (ps_fld (pe_var hN hv hd hcd) pe_wp hs) pss_wp) ?_
  refine he Δ τ σ H _ hl w fun v H1 ⟨O, w1⟩ => ?_
  obtain ⟨yy, hy, pa, oo, rfl, g2, g3, g4, g5⟩ := slot_of hl w1.pop h
  obtain ⟨v', e1, rv⟩ := w1.head
  cases e1
  obtain ⟨dx, fs, rfl, q1, q2, q3⟩ := RepH.own (ds1 := ds ++ [d1]) g5 ho
  refine ⟨.ref pa, hy, pa, C, dx, fs, rfl, g4, cl, na, ?_, ?_⟩
  · have : fs.length = ns.length := by rw [← q1, List.length_map]
    omega
  · subst q1
    have q4 := q3 dx (fs ++ [(f, v)]) (by rw [List.map_append]; exact q2.app (Reps.one rv))
    rw [List.map_append] at q4
    rw [putF_new hf]
    exact hr Δ τ σ _ D hl st ⟨O, w1.pop.mutN hl st hst h hy q4⟩ k
/-! ### iteration over an own class -/
theorem ei_own {ad : Addr} (T : Own.IterAt X.K X.mg C ad f) (hr : Room 2 X.A) (he : Ev X H0 Oc Γ iter (.bw (.obj C ns ds1))) (hi : (ns.zip ds1).lookup f = some (.lst ds)) : Ei X H0 Oc Γ tg iter ds := ⟨_, Own.pi_own T hr pe_wp, fun Δ τ σ H R hl w k => he Δ τ σ H _ hl w fun v H1 ⟨O, w1⟩ => by
  obtain ⟨v', e1, r, dx, fs, rfl, h2, h3, h4⟩ := w1.head
  cases e1
  subst h3
  obtain ⟨z, hz, rz⟩ := h4.look hi
  obtain ⟨l, vs, rfl, g1, g2⟩ := id rz
  exact ⟨r, dx, fs, l, rfl, h2, hz, ⟨vs, .of (cut_ex _ _ g1)⟩, k _ [.va (.lst ds)] [some (.ref l)] H1 (fun _ _ => it_lst rfl) rfl ⟨O, w1.pop.push ⟨.ref l, rfl, rz⟩ fun _ z => nomatch z⟩⟩⟩
end
end Y

namespace Y
open PySem PySem.Spec PyProof.Rows L2
abbrev wx (E : XK) : WX := fun cls d _ H => E cls d H
/-- how a body's end is the call's -/
def Fin : Out → Out → Prop
  | .nx _, o => o = .ret (.va .non)
  | .ret s, o => o = .ret s
  | .exc C ns ds _, o => ∃ Γe, o = .exc C ns ds Γe
  | _, _ => False
def FinI (a C : Addr) : Out → Out → Prop
  | .nx Γ, o => ∃ ns ds, Γ[0]? = some (.ow (.slf a C ns ds)) ∧ o = .ret (.ow (.obj C ns ds))
  | .exc C ns ds _, o => ∃ Γe, o = .exc C ns ds Γe
  | _, _ => False
section
variable {K : PySem.W.Frag} {H0 H : Hp} {O Oc : List Addr} {G Γ : List Sl} {S : List (Option V)}
theorem WfO.pad (n : Nat) (w : WfO K H0 Oc O G S H) : WfO K H0 Oc O (G ++ List.replicate n .no) (S ++ List.replicate n none) H := by
  have no : ∀ i s, (G ++ List.replicate n Sl.no)[i]? = some s → G[i]? = some s ∧ i < G.length ∨ s = .no := fun i s h => by
    by_cases hi : i < G.length
    · rw [List.getElem?_append_left hi] at h
      exact .inl ⟨h, hi⟩
    · rw [List.getElem?_append_right (by omega), List.getElem?_replicate] at h
      split at h
      · exact .inr (Option.some.inj h).symm
      · cases h
  refine ⟨w.sub, w.new, w.old, w.live, w.ex, by simp [w.len], fun i s x h1 h2 => ?_, fun i j p d d' h1 h2 h3 h4 => ?_⟩
  · rcases no i s h1 with ⟨e, hi⟩ | e
    · rw [List.getElem?_append_left (by rw [w.len]; exact hi)] at h2
      exact w.ok i s x e h2
    · subst e
      trivial
  · rcases no i _ h1 with ⟨e, hi⟩ | e
    · rcases no j _ h3 with ⟨f, hj⟩ | f
      · rw [List.getElem?_append_left (by rw [w.len]; exact hi)] at h2
        rw [List.getElem?_append_left (by rw [w.len]; exact hj)] at h4
        exact w.nd i j p d d' e h2 f h4
      · cases f
    · cases e
/-- the object in the making, its address told -/
theorem WfO.slf {C : Addr} {ns : List Str} {ds : List D} {a : Addr} (w : WfO K H0 Oc O (.ow (.obj C ns ds) :: G) (some (.ref a) :: S) H) : WfO K H0 Oc O (.ow (.slf a C ns ds) :: G) (some (.ref a) :: S) H := by
  refine ⟨w.sub, w.new, w.old, w.live, w.ex, by simpa using w.len, fun i s x h1 h2 => ?_, fun i j p d d' h1 h2 h3 h4 => ?_⟩
  · cases i with
    | zero =>
      cases h1
      cases h2
      obtain ⟨p, o, e, h2, h3, h4, h5⟩ := w.head
      cases e
      refine ⟨a, o, rfl, h2, h3, h4, ?_⟩
      cases o <;> first | exact h5.elim | exact ⟨⟨h5.1, rfl⟩, h5.2⟩
    | succ i => exact w.ok (i + 1) s x h1 h2
  · have key : ∀ (k : Nat) (dd : D), (Sl.ow (.slf a C ns ds) :: G)[k]? = some (Sl.ow dd) → ∃ dd', (Sl.ow (.obj C ns ds) :: G)[k]? = some (Sl.ow dd') := fun k dd h => by
      cases k with
      | zero => exact ⟨_, rfl⟩
      | succ k => exact ⟨dd, h⟩
    obtain ⟨_, e⟩ := key i d h1
    obtain ⟨_, f⟩ := key j d' h3
    exact w.nd i j p _ _ e h2 f h4
theorem WfO.at0 {C : Addr} {ns : List Str} {ds : List D} {a : Addr} (w : WfO K H0 Oc O G S H) (h : G[0]? = some (.ow (.slf a C ns ds))) : Wf K H0 Oc [.ow (.obj C ns ds)] [some (.ref a)] H := by
  match G, S, h, w with
  | [], _, h, _ => cases h
  | _ :: G, [], h, w => exact absurd w.len (by simp)
  | s :: G, y :: S, h, w =>
    cases h
    obtain ⟨p, o, rfl, h2, h3, h4, h5⟩ := w.head
    obtain ⟨O', w'⟩ := (Wf.only ⟨O, w⟩ : Wf K H0 Oc [.ow (.slf a C ns ds)] [some (.ref p)] H)
    obtain ⟨p', o', e, k2, k3, k4, k5⟩ := w'.head
    cases e
    cases o' <;> first | exact k5.elim | skip
    obtain ⟨⟨rfl, rfl⟩, k6⟩ := k5
    refine ⟨O', w'.sub, w'.new, w'.old, w'.live, w'.ex, rfl, fun i s x h1 h2 => ?_, fun i j p d d' h1 h2 h3 h4 => ?_⟩
    · cases i with
      | zero =>
        cases h1
        cases h2
        exact ⟨_, _, rfl, k2, k3, k4, rfl, k6⟩
      | succ i => cases h1
    · cases i with
      | zero => cases j with
        | zero => rfl
        | succ j => cases h3
      | succ i => cases h1
end
section
variable {Pr : Program} {w : World} {K : PySem.W.Frag} {mg : Str → Option Value} {base : Heap}
/-- a def by its body's reading -/
theorem fn_sds {x qual : Str} {st : Stmt} {f : Addr} {fd : FuncData} {N ps : List Str} {k : Nat} {P : Pm} (F : Fun K x qual st f fd) (S : FnScope N ps (defScope st)) (hlen : ∀ Γ o, P Γ o → Γ.length = ps.length)
    (hb : ∀ (cdv : Value) (A : Around) (outer : List Env) (s : Shared) (H : Hp) (E : XK), Room k (A.deeper (envOfC qual (defScope st) s.heap.objs.size f cdv)) → ∀ (H0 : Hp) (Oc : List Addr) (Γ : List Sl) (o : Out), P Γ o →
      ∃ o', Sds (cxOf (L2N.CX Pr w) Pr w K mg base N qual (defScope st) f cdv A outer s H E) (wx E) H0 Oc (Γ ++ List.replicate (N.length - ps.length) .no) (defBody st) o' ∧ Fin o' o) :
    FnOk Pr w K mg base (L2N.CX Pr w) (k + 1) f fd ps (mkSp K P) := by
  obtain ⟨oc, od, kV, doc, pm, an, cdv, ct, osl, rfl, lk, hcd⟩ := F.ex
  have len : ∀ vs H Q E, mkSp K P vs H Q E → vs.length = ps.length := fun vs H Q E ⟨Oc, Γ, o, hp, ⟨O, w⟩, _⟩ => by
    rw [← hlen Γ o hp, ← w.len, List.length_map]
  refine fn_of lk hcd S len fun A outer s H vs Q E hr hsp => ?_
  have hl := len vs H Q E hsp
  obtain ⟨Oc, Γ, o, hp, ⟨O, w0⟩, sat⟩ := hsp
  obtain ⟨o', hS, fin⟩ := hb cdv A outer s H E hr H Oc Γ o hp
  refine ⟨wpSs _ _, pss_wp, hS [] [] (L2.start N vs) H _ rfl rfl ⟨O, ?_⟩ ?_⟩
  · unfold L2.start
    rw [← hl]
    exact w0.pad _
  · match o', fin with
    | .nx Γ', fin =>
      subst fin
      exact fun σ H' ⟨O', w'⟩ => sat .non H' (Wf.only ⟨O', w'.flat rfl (show Rep K H' .non .non from rfl)⟩)
    | .ret s', fin =>
      subst fin
      exact sat
    | .exc C ns ds Γe, fin =>
      obtain ⟨Γe', rfl⟩ := fin
      intro d σ H' xw
      refine sat d H' ?_
      cases Γe with
      | none => exact xw
      | some Γ2 => exact Wf.only (show Wf K H Oc (.va (.xd ns ds) :: ([] ++ Γ2)) (some (.ref d) :: ([] ++ σ)) H' from xw)
/-- an __init__ -/
theorem init_sds {x qual : Str} {st : Stmt} {f C : Addr} {fd : FuncData} {N ps : List Str} {k : Nat} {P : Pm} (F : Fun K x qual st f fd) (S : FnScope N ps (defScope st)) (hlen : ∀ Γ o, P Γ o → Γ.length + 1 = ps.length)
    (hb : ∀ (cdv : Value) (A : Around) (outer : List Env) (s : Shared) (H : Hp) (E : XK), Room k (A.deeper (envOfC qual (defScope st) s.heap.objs.size f cdv)) → ∀ (H0 : Hp) (Oc : List Addr) (Γ : List Sl) (o : Out) (a : Addr), P Γ o →
      ∃ o', Sds (cxOf (L2N.CX Pr w) Pr w K mg base N qual (defScope st) f cdv A outer s H E) (wx E) H0 Oc (.ow (.slf a C [] []) :: (Γ ++ List.replicate (N.length - ps.length) .no)) (defBody st) o' ∧ FinI a C o' o) :
    FnOk Pr w K mg base (L2N.CX Pr w) (k + 1) f fd ps (mkSpI K C P) := by
  obtain ⟨oc, od, kV, doc, pm, an, cdv, ct, osl, rfl, lk, hcd⟩ := F.ex
  have len : ∀ vs H Q E, mkSpI K C P vs H Q E → vs.length = ps.length := fun vs H Q E ⟨H0, Oc, Γ, o, self, us, hp, e, ⟨O, w⟩, _⟩ => by
    have := w.len
    rw [← hlen Γ o hp, ← List.length_map (f := some) (as := vs), this]
    rfl
  refine fn_of lk hcd S len fun A outer s H vs Q E hr hsp => ?_
  have hl := len vs H Q E hsp
  obtain ⟨H0, Oc, Γ, o, self, us, hp, rfl, ⟨O, w0⟩, sat⟩ := hsp
  obtain ⟨aa, oo, e, h2, h3, h4, h5⟩ := w0.head
  cases e
  obtain ⟨o', hS, fin⟩ := hb cdv A outer s H E hr H0 Oc Γ o aa hp
  refine ⟨wpSs _ _, pss_wp, hS [] [] (L2.start N _) H _ rfl rfl ⟨O, ?_⟩ ?_⟩
  · unfold L2.start
    rw [← hl]
    exact w0.slf.pad _
  · match o', fin with
    | .nx Γ', fin =>
      obtain ⟨ns, ds, e1, rfl⟩ := fin
      exact fun σ H' ⟨O', w'⟩ => sat H' (w'.at0 e1)
    | .exc C ns ds Γe, fin =>
      obtain ⟨Γe', rfl⟩ := fin
      intro d σ H' xw
      refine sat d H' ?_
      cases Γe with
      | none => exact xw
      | some Γ2 => exact Wf.only (show Wf K H0 Oc (.va (.xd ns ds) :: ([] ++ Γ2)) (some (.ref d) :: ([] ++ σ)) H' from xw)
end
end Y

namespace Y
open PySem L2
/-! ## the rules in short -/
section
variable {X : Cx} {W : WX} {H0 : Hp} {Oc : List Addr} {Γ Γ1 Γ' : List Sl} {e a b c o tg iter elt ie : Expr} {es ifs : List Expr} {rest body els : List Stmt} {s s0 s1 s2 : Sl} {ss : List Sl} {d d1 d2 : D} {ds ds1 ds2 : List D} {i j : Int} {pos pos' p2 p apos : Pos} {x y m f g : Str} {out o1 : Out} {q : Bool} {k : Nat} {C : Addr} {ns : List Str}
theorem vv (n : Nat) (h : Γ[n]? = some (.va d) := by rfl) (hN : X.N[n]? = some x := by rfl) (hv : Vis X.env.scope x := by first | exact .inl rfl | exact .inr (.inl rfl) | exact .inr (.inr rfl)) (hd : (x == ("__debug__" : Str)) = false := by rfl) (hcd : (x == ("__classdict__" : Str)) = false := by rfl) : Ev X H0 Oc Γ (.Name x pos) (.va d) :=
  ev_var n h (fun z => nomatch z) hN hv hd hcd
theorem vo (n : Nat) (h : Γ[n]? = some (.ow d) := by rfl) (hN : X.N[n]? = some x := by rfl) (hv : Vis X.env.scope x := by first | exact .inl rfl | exact .inr (.inl rfl) | exact .inr (.inr rfl)) (hd : (x == ("__debug__" : Str)) = false := by rfl) (hcd : (x == ("__classdict__" : Str)) = false := by rfl) : Ev X H0 Oc Γ (.Name x pos) (.bw d) :=
  ev_var n h (fun z => nomatch z) hN hv hd hcd
theorem vr (n : Nat) (h : Γ[n]? = some (.br d) := by rfl) (hN : X.N[n]? = some x := by rfl) (hv : Vis X.env.scope x := by first | exact .inl rfl | exact .inr (.inl rfl) | exact .inr (.inr rfl)) (hd : (x == ("__debug__" : Str)) = false := by rfl) (hcd : (x == ("__classdict__" : Str)) = false := by rfl) : Ev X H0 Oc Γ (.Name x pos) (.br d) :=
  ev_var n h (fun z => nomatch z) hN hv hd hcd
/-- any of them, read -/
theorem vb (n : Nat) (h : Γ[n]? = some s := by rfl) (hs : s.dat = some d := by rfl) (hN : X.N[n]? = some x := by rfl) (hv : Vis X.env.scope x := by first | exact .inl rfl | exact .inr (.inl rfl) | exact .inr (.inr rfl)) (hd : (x == ("__debug__" : Str)) = false := by rfl) (hcd : (x == ("__classdict__" : Str)) = false := by rfl) : Ev X H0 Oc Γ (.Name x pos) (.bw d) := by
  have := ev_var (H0 := H0) (Oc := Oc) (pos := pos) n h (fun z => by rw [z] at hs; exact nomatch hs) hN hv hd hcd
  cases s <;> first
    | (cases hs; done)
    | (cases hs; exact this.r)
    | (cases hs; exact this)
/-- self of an __init__ or method: an object -/
theorem slf_obj {K : PySem.W.Frag} {Ht H : Hp} {v : V} {aa : Addr} (h : RepB K Ht H (.slf aa C ns ds) v) : RepB K Ht H (.obj C ns ds) v := by
  obtain ⟨dx, fs, h1, h2, h3, h4⟩ := h
  exact ⟨aa, dx, fs, h1, h2, h3, h4⟩
theorem Ev.ob {aa : Addr} (h : Ev X H0 Oc Γ e (.bw (.slf aa C ns ds))) : Ev X H0 Oc Γ e (.bw (.obj C ns ds)) := fun Δ τ σ H Q hl W q => h Δ τ σ H Q hl W fun v H' ⟨O, W'⟩ => by
  obtain ⟨u, h1, h2⟩ := W'.head
  cases h1
  exact q v H' ⟨O, W'.pop.push ⟨v, rfl, slf_obj h2⟩ fun _ z => nomatch z⟩
theorem e_len {p : Pos} (hm : X.mg "len" = none) (ha : Ev X H0 Oc Γ a (.bw d)) (hd : seqD d = some ds := by rfl) (hg : Gl X "len" := by rfl) (he : starEach [a] X.env = (false, eval a X.env) :: starEach [] X.env := by rfl) (hpl : (backTo pos (starEach [] X.env)).any (·.1) = false := by rfl) :
    Ev X H0 Oc Γ (.Call (.Name "len" p) [a] [] pos) (.va (.int ds.length)) := ev_len ha hd hm hg he hpl
theorem e_list {p : Pos} (hm : X.mg "list" = none) (ha : Ev X H0 Oc Γ a (.bw d)) (hd : seqD d = some ds := by rfl) (hg : Gl X "list" := by rfl) (he : starEach [a] X.env = (false, eval a X.env) :: starEach [] X.env := by rfl) (hpl : (backTo pos (starEach [] X.env)).any (·.1) = false := by rfl) :
    Ev X H0 Oc Γ (.Call (.Name "list" p) [a] [] pos) (.ow (.lst ds)) := ev_list ha hd hm hg he hpl
theorem e_tupL {p : Pos} (hm : X.mg "tuple" = none) (ha : Ev X H0 Oc Γ a (.bw (.lst ds))) (hg : Gl X "tuple" := by rfl) (he : starEach [a] X.env = (false, eval a X.env) :: starEach [] X.env := by rfl) (hpl : (backTo pos (starEach [] X.env)).any (·.1) = false := by rfl) :
    Ev X H0 Oc Γ (.Call (.Name "tuple" p) [a] [] pos) (.va (.tup ds)) := ev_tupL ha hm hg he hpl
theorem e_tupT {p : Pos} (hm : X.mg "tuple" = none) (ha : Ev X H0 Oc Γ a (.va (.tup ds))) (hg : Gl X "tuple" := by rfl) (he : starEach [a] X.env = (false, eval a X.env) :: starEach [] X.env := by rfl) (hpl : (backTo pos (starEach [] X.env)).any (·.1) = false := by rfl) :
    Ev X H0 Oc Γ (.Call (.Name "tuple" p) [a] [] pos) (.va (.tup ds)) := ev_tupT ha hm hg he hpl
theorem e_int {p : Pos} (hm : X.mg "int" = none) (ha : Ev X H0 Oc Γ a (.va (.int i))) (hg : Gl X "int" := by rfl) (he : starEach [a] X.env = (false, eval a X.env) :: starEach [] X.env := by rfl) (hpl : (backTo pos (starEach [] X.env)).any (·.1) = false := by rfl) :
    Ev X H0 Oc Γ (.Call (.Name "int" p) [a] [] pos) (.va (.int i)) := ev_int1 ha hm hg he hpl
theorem e_isi {cv : V} {u t : Value} (hm : X.mg "isinstance" = none) (ha : Ev X H0 Oc Γ a (.bw d)) (hb : Ev X H0 Oc Γ b (.va (.opq cv))) (k : ClsV cv u) (ht : tyD d = some t) (hk : PySem.W.kitOne X.K t u = some q) (hc : ∀ C, t = .ref C → IsC X.K C := by exact fun _ z => nomatch z) (hg : Gl X "isinstance" := by rfl)
    (he : starEach [a, b] X.env = (false, eval a X.env) :: starEach [b] X.env := by rfl) (he2 : starEach [b] X.env = (false, eval b X.env) :: starEach [] X.env := by rfl) (hpl : (backTo pos (starEach [b] X.env)).any (·.1) = false := by rfl) : Ev X H0 Oc Γ (.Call (.Name "isinstance" p) [a, b] [] pos) (.va (.bl q)) := ev_isi ha hb k ht hk hm hc hg he he2 hpl
/-- isinstance(x, T), T a built-in type, x no instance of an own class -/
theorem kit_ty {K : PySem.W.Frag} {t c : String} {q : Bool} (h : PySem.W.kitOne [] (.type t) (.type c) = some q) : PySem.W.kitOne K (.type t) (.type c) = some q := by
  exact h
theorem e_isT {T t : String} (hm : X.mg "isinstance" = none) (hT : X.mg x = none) (ha : Ev X H0 Oc Γ a (.bw d)) (hv : bootBuiltins x = some (.type T)) (ht : tyD d = some (.type t)) (hk : PySem.W.kitOne [] (.type t) (.type T) = some q) (hgT : Gl X x := by rfl) (hg : Gl X "isinstance" := by rfl) (hn : x ≠ "__name__" := by decide) (hdb : (x == ("__debug__" : Str)) = false := by decide)
    (he : starEach [a, .Name x p2] X.env = (false, eval a X.env) :: starEach [.Name x p2] X.env := by rfl) (he2 : starEach [.Name x p2] X.env = (false, eval (.Name x p2) X.env) :: starEach [] X.env := by rfl) (hpl : (backTo pos (starEach [.Name x p2] X.env)).any (·.1) = false := by rfl) : Ev X H0 Oc Γ (.Call (.Name "isinstance" p) [a, .Name x p2] [] pos) (.va (.bl q)) :=
  ev_isi ha (ev_ty hgT hT hv hn hdb) (.ty T) ht (kit_ty hk) hm (fun _ z => nomatch z) hg he he2 hpl
theorem d_set {pos' : Pos} (n : Nat) (hN : X.N.Nodup) (he : Ev X H0 Oc Γ e s) (hr : Sds X W H0 Oc (Γ.set n s) rest out) (hi : X.N[n]? = some x := by rfl) (hx : Loc X.env.scope x := by first | exact .inl rfl | exact .inr rfl) (hs : swapsWith e (some (.Name x pos')) pos.line X.env = pure false := by rfl) (hf : X.fn x = true ∨ X.env.scope.names.lookup x = some .local := by first | exact .inr rfl | exact .inl rfl) :
    Sds X W H0 Oc Γ (.Assign [.Name x pos'] e pos :: rest) out := sds_set n he hr hN hi hx hs hf
theorem d_ret (he : Ev X H0 Oc Γ e (.va d)) (h : d = d1) : Sds X W H0 Oc Γ (.Return (some e) pos :: rest) (.ret (.va d1)) := h ▸ sds_ret he
theorem d_retO (he : Ev X H0 Oc Γ e (.ow d)) (h : d = d1) : Sds X W H0 Oc Γ (.Return (some e) pos :: rest) (.ret (.ow d1)) := h ▸ sds_ret he
theorem Ev.ii {i j : Int} (h : Ev X H0 Oc Γ e (.va (.int i))) (hd : i = j) : Ev X H0 Oc Γ e (.va (.int j)) := hd ▸ h
theorem Ev.bb {p q : Bool} (h : Ev X H0 Oc Γ e (.va (.bl p))) (hd : p = q) : Ev X H0 Oc Γ e (.va (.bl q)) := hd ▸ h
theorem Et.bb {p q : Bool} (h : Et X H0 Oc Γ e p) (hd : p = q) : Et X H0 Oc Γ e q := hd ▸ h
/-- if c: leave; rest -/
theorem d_ifx (hc : Et X H0 Oc Γ c q) (hx : out.exit = true) (h1 : q = true → Sds X W H0 Oc Γ body out) (h2 : q = false → Sds X W H0 Oc Γ rest out) : Sds X W H0 Oc Γ (.If c body [] pos :: rest) out := sds_ifx hc (fun z => ⟨h1 z, hx⟩) h2
theorem t_name {pos' : Pos} (n : Nat) (hN : X.N.Nodup) (hi : X.N[n]? = some x := by rfl) (hx : Loc X.env.scope x := by first | exact .inl rfl | exact .inr rfl) (hf : X.fn x = true ∨ X.env.scope.names.lookup x = some .local := by first | exact .inr rfl | exact .inl rfl) : Tg X H0 Oc (.Name x pos') Γ s (Γ.set n s) := tg_name n hN hi hx hf
theorem d_app {cpos epos : Pos} (n : Nat) (he : Ev X H0 Oc Γ e (.va d)) (hn : ds.length ≤ 1000000) (hr : Sds X W H0 Oc (Γ.set n (.ow (.lst (ds ++ [d])))) rest out) (h : Γ[n]? = some (.ow (.lst ds)) := by rfl) (hst : stab Γ = true := by rfl)
    (hN : X.N[n]? = some x := by rfl) (hv : Vis X.env.scope x := by first | exact .inl rfl | exact .inr (.inl rfl) | exact .inr (.inr rfl)) (hd : (x == ("__debug__" : Str)) = false := by rfl) (hcd : (x == ("__classdict__" : Str)) = false := by rfl)
    (hbase : attributeBase (.Name x p) "append" X.env (eval (.Name x p) X.env) = eval (.Name x p) X.env := by rfl)
    (hfew : ((backTo cpos (starEach [e] X.env)).all (fun x => !x.1) && (backToKw cpos (keywordEach [] X.env)).all (fun x => x.1.isSome)
      && decide (([e] : List Expr).length + ([] : List Keyword).length + (if ([] : List Keyword).isEmpty then 0 else 1) < 30)) = true := by rfl)
    (hline : (apos.endLine == cpos.line) = true := by rfl) (hs : starEach [e] X.env = (false, eval e X.env) :: starEach [] X.env := by rfl) (hplain : (backTo cpos (starEach [] X.env)).any (·.1) = false := by rfl)
    (hsw : swapsWith (.Call (.Attribute (.Name x p) "append" apos) [e] [] cpos) none epos.line X.env = pure false := by rfl) :
    Sds X W H0 Oc Γ (.Expr (.Call (.Attribute (.Name x p) "append" apos) [e] [] cpos) epos :: rest) out := sds_app n h hst he hn hr hN hv hd hcd hbase hfew hline hs hplain hsw
end
end Y

namespace Y
open PySem L2
/-! ## loops by their turns -/
def runE {α β ε : Type} (step : α → β → Except ε α) : α → List β → Except ε α
  | a, [] => .ok a
  | a, b :: bs => match step a b with
    | .ok a' => runE step a' bs
    | .error e => .error e
theorem runE_app {α β ε : Type} (step : α → β → Except ε α) : ∀ (a : α) (xs ys : List β), runE step a (xs ++ ys) = match runE step a xs with | .ok a' => runE step a' ys | .error e => .error e
  | a, [], ys => rfl
  | a, b :: bs, ys => by
    show (match step a b with | .ok a' => runE step a' (bs ++ ys) | .error e => .error e) = match (match step a b with | .ok a' => runE step a' bs | .error e => .error e) with | .ok a' => runE step a' ys | .error e => .error e
    cases step a b with
    | ok a' => exact runE_app step a' bs ys
    | error e => rfl
section
variable {X : Cx} {W : WX} {H0 : Hp} {Oc : List Addr} {Γ Γ1 Γ' : List Sl} {e a b c o tg iter elt ie : Expr} {es ifs : List Expr} {rest body els : List Stmt} {pos : Pos} {out : Out}
/-- how a turn's end fits the step -/
def StepOk (X : Cx) (W : WX) (H0 : Hp) (Oc : List Addr) (rest : List Stmt) (out : Out) {α : Type} (GG : α → List Sl) (ob : Out) : Except Out α → Prop
  | .ok st => (∃ Γ2, ob = .nx Γ2 ∧ Sub Γ2 (GG st)) ∨ (∃ Γ2, ob = .cnt Γ2 ∧ Sub Γ2 (GG st))
  | .error r => ob = r ∧ ((∃ s, r = .ret s) ∨ (∃ C ns ds Γe, r = .exc C ns ds Γe) ∨ ∃ Γ2, r = .brk Γ2)
def Behind (X : Cx) (W : WX) (H0 : Hp) (Oc : List Addr) (rest : List Stmt) (out : Out) {α : Type} (GG : α → List Sl) : Except Out α → Prop
  | .ok st => Sds X W H0 Oc (GG st) rest out
  | .error (.brk Γ2) => Sds X W H0 Oc Γ2 rest out
  | .error r => out = r
theorem d_for {α β : Type} (xs : List β) (enc : β → D) (step : α → β → Except Out α) (a0 : α) (GG : α → List Sl) (hp : PassesOwn (model X.prog X.w) X.A X.env X.xe) (hc : X.calm = true) (hi : Ei X H0 Oc Γ tg iter (xs.map enc)) (h0 : Sub Γ (GG a0))
    (hb : ∀ st b pre post, xs = pre ++ b :: post → runE step a0 pre = .ok st → ∃ Γ1 ob, Tg X H0 Oc tg (GG st) (.va (enc b)) Γ1 ∧ Sds X W H0 Oc Γ1 body ob ∧ StepOk X W H0 Oc rest out GG ob (step st b))
    (hr : Behind X W H0 Oc rest out GG (runE step a0 xs))
    (hs : ∀ x, foldedSetIterable iter X.env x = pure x := by intro _; rfl) : Sds X W H0 Oc Γ (.For tg iter body [] pos :: rest) out := by
  let G : Nat → List Sl := fun i => match runE step a0 (xs.take i) with | .ok st => GG st | .error _ => []
  refine sds_for G (fun i => ∃ st, runE step a0 (xs.take i) = .ok st) hp hc hi (by show Sub Γ (match runE step a0 (xs.take 0) with | .ok st => GG st | .error _ => []); rw [List.take_zero]; exact h0) ⟨a0, by rw [List.take_zero]; rfl⟩ ?_ ?_ hs
  · rintro i d hd ⟨st, hst⟩
    rw [List.getElem?_map] at hd
    cases hx : xs[i]? with
    | none => rw [hx] at hd; cases hd
    | some b =>
      rw [hx] at hd
      have hd' := Option.some.inj hd
      subst hd'
      have hi : i < xs.length := (List.getElem?_eq_some_iff.mp hx).1
      have hsp : xs = xs.take i ++ b :: xs.drop (i + 1) := by
        have e : xs.drop i = b :: xs.drop (i + 1) := by
          rw [List.drop_eq_getElem_cons hi]
          congr 1
          exact (List.getElem?_eq_some_iff.mp hx).2
        rw [← e, List.take_append_drop]
      obtain ⟨Γ1, ob, t1, t2, t3⟩ := hb st b _ _ hsp hst
      have eG : G i = GG st := by show (match runE step a0 (xs.take i) with | .ok st => GG st | .error _ => []) = _; rw [hst]
      refine ⟨Γ1, ob, eG ▸ t1, t2, ?_⟩
      have nxt : runE step a0 (xs.take (i + 1)) = match step st b with | .ok a' => .ok a' | .error e => .error e := by
        rw [List.take_add_one, hx, runE_app, hst]
        simp only [Option.toList, runE]
        cases step st b <;> rfl
      have all : ∀ r, step st b = .error r → runE step a0 xs = .error r := fun r hr' => by
        rw [hsp, runE_app, hst]
        simp only [runE, hr']
      cases hstep : step st b with
      | ok st' =>
        rw [hstep] at t3 nxt
        have eG' : G (i + 1) = GG st' := by show (match runE step a0 (xs.take (i + 1)) with | .ok st => GG st | .error _ => []) = _; rw [nxt]
        rcases t3 with ⟨Γ2, rfl, hsub⟩ | ⟨Γ2, rfl, hsub⟩
        · exact ⟨eG' ▸ hsub, st', nxt⟩
        · exact ⟨eG' ▸ hsub, st', nxt⟩
      | error r =>
        rw [hstep] at t3
        rw [all r hstep] at hr
        obtain ⟨rfl, hr'⟩ := t3
        rcases hr' with ⟨s, rfl⟩ | ⟨C, ns, ds, Γe, rfl⟩ | ⟨Γ2, rfl⟩
        · exact Eq.symm hr
        · exact Eq.symm hr
        · exact hr
  · rintro ⟨st, hst⟩
    rw [List.length_map] at hst ⊢
    rw [List.take_length] at hst
    have eG : G xs.length = GG st := by show (match runE step a0 (xs.take xs.length) with | .ok st => GG st | .error _ => []) = _; rw [List.take_length, hst]
    rw [eG]
    rw [hst] at hr
    exact hr
theorem runE_ok {α β ε : Type} (step : α → β → α) : ∀ (a : α) (xs : List β), runE (ε := ε) (fun a b => .ok (step a b)) a xs = .ok (xs.foldl step a)
  | _, [] => rfl
  | a, b :: bs => by
    simp only [runE, List.foldl]
    exact runE_ok step (step a b) bs
theorem d_forP {α β : Type} (xs : List β) (enc : β → D) (step : α → β → α) (a0 : α) (GG : α → List Sl) (hp : PassesOwn (model X.prog X.w) X.A X.env X.xe) (hc : X.calm = true) (hi : Ei X H0 Oc Γ tg iter (xs.map enc)) (h0 : Sub Γ (GG a0))
    (hb : ∀ st b pre post, xs = pre ++ b :: post → st = pre.foldl step a0 → ∃ Γ1 Γ2, Tg X H0 Oc tg (GG st) (.va (enc b)) Γ1 ∧ Sds X W H0 Oc Γ1 body (.nx Γ2) ∧ Sub Γ2 (GG (step st b)))
    (hr : Sds X W H0 Oc (GG (xs.foldl step a0)) rest out)
    (hs : ∀ x, foldedSetIterable iter X.env x = pure x := by intro _; rfl) : Sds X W H0 Oc Γ (.For tg iter body [] pos :: rest) out :=
  d_for xs enc (fun a b => .ok (step a b)) a0 GG hp hc hi h0 (fun st b pre post h1 h2 => by
    rw [runE_ok] at h2
    obtain ⟨Γ1, Γ2, h3, h4, h5⟩ := hb st b pre post h1 (Except.ok.inj h2).symm
    exact ⟨Γ1, _, h3, h4, .inl ⟨Γ2, rfl, h5⟩⟩) (by rw [runE_ok]; exact hr) hs
/-- 10 ** 18 -/
theorem e_1018 {k1 k2 : Nat} {p1 p2 : Pos} {pos : Pos} : Ev X H0 Oc Γ (.BinOp (.Constant (.int 10) k1 p1) .Pow (.Constant (.int 18) k2 p2) pos) (.va (.int 1000000000000000000)) :=
  (ev_pow ev_int ev_int ⟨by decide, by decide, by decide⟩).ii rfl
/-- one slot alone -/
theorem WfO.pick {K : PySem.W.Frag} {H : Hp} {O : List Addr} {G : List Sl} {S : List (Option V)} {i : Nat} {s : Sl} {y : Option V} (w : WfO K H0 Oc O G S H) (h1 : G[i]? = some s) (h2 : S[i]? = some y) : WfO K H0 Oc O [s] [y] H := by
  refine ⟨w.sub, w.new, w.old, w.live, w.ex, rfl, fun j s' x h3 h4 => ?_, fun j k p d d' h3 h4 h5 h6 => ?_⟩
  · cases j with
    | zero =>
      cases h3
      cases h4
      exact w.ok i _ _ h1 h2
    | succ j => cases h3
  · cases j with
    | zero => cases k with
      | zero => rfl
      | succ k => cases h5
    | succ j => cases h3
/-- return x, x one's own -/
theorem d_retV {x : Str} {d d1 : D} {p : Pos} (n : Nat) (he : d = d1) (h : Γ[n]? = some (.ow d) := by rfl) (hN : X.N[n]? = some x := by rfl) (hv : Vis X.env.scope x := by first | exact .inl rfl | exact .inr (.inl rfl) | exact .inr (.inr rfl)) (hd : (x == ("__debug__" : Str)) = false := by rfl) (hcd : (x == ("__classdict__" : Str)) = false := by rfl) :
    Sds X W H0 Oc Γ (.Return (some (.Name x p)) pos :: rest) (.ret (.ow d1)) := fun Δ τ σ H D hl st ⟨O, w⟩ k => by
  subst he
  refine wpSs.of (pss_cons (ps_ret (pe_var hN hv hd hcd)) pss_wp) ?_
  obtain ⟨y, hy, pp, oo, rfl, g2, g3, g4, g5⟩ := slot_of hl w h
  obtain ⟨h1, h2⟩ := len_app (σ := σ) hl h
  exact ⟨.ref pp, hy, k _ H ⟨O, w.pick h1 (h2.trans hy)⟩⟩
theorem Sub.eqc {s s' : Sl} {G G' : List Sl} (e : s = s') (h : Sub G G') : Sub (s :: G) (s' :: G') := e ▸ .eq h
end
/-- a list grown by one -/
theorem lst1 {α : Type} (f : α → D) (xs : List α) (a : α) : Sl.ow (.lst (xs.map f ++ [f a])) = .ow (.lst ((xs ++ [a]).map f)) := by rw [List.map_append] <;> rfl
theorem atI_map {α : Type} {f : α → D} {xs : List α} {k : Nat} {a : α} (h : xs[k]? = some a) : L2.atI (xs.map f) (k : Int) = some (f a) := L2.atI_nat (by rw [List.getElem?_map, h]; rfl)
end Y

namespace Y
open PySem L2
section
variable {X : Cx} {W : WX} {H0 : Hp} {Oc : List Addr} {Γ Γ1 Γ' : List Sl} {e a b c o tg iter elt ie t1 : Expr} {es ifs : List Expr} {rest body els : List Stmt} {pos pos' p : Pos} {out : Out} {scope : Scope} {own : List (Str × Nat)} {y : Str}
/-- [g for x in xs] -/
theorem e_lc {α : Type} (xs : List α) (enc : α → D) (g : α → D) (Γe : α → List Sl) (hc : X.calm = true) (hN : X.N.Nodup) (ok : BlkOk X.N X.env.scope scope own) (hi : Ei X H0 Oc Γ tg iter (xs.map enc)) (hn : xs.length ≤ 1000000)
    (ht : ∀ x ∈ xs, ∀ H0' Oc' s0 H00 C cl fp, Tgw (blkX X scope s0 H00 C cl fp) H0' Oc' (own.map (·.2)) tg (wipeG (Γ.map Sl.arg) (own.map (·.2))) (.va (enc x)) (Γe x))
    (hst : ∀ x ∈ xs, stab (Γe x) = true ∧ Sub (wipeG (Γe x) (own.map (·.2))) (wipeG (Γ.map Sl.arg) (own.map (·.2))))
    (he : ∀ x ∈ xs, ∀ H0' Oc' s0 H00 C cl fp, Ev (blkX X scope s0 H00 C cl fp) H0' Oc' (Γe x) elt (.va (g x)))
    (hs : ∀ x, foldedSetIterable iter X.env x = pure x := by intro _; rfl) : Ev X H0 Oc Γ (.ListComp elt [⟨tg, iter, [], 0⟩] scope pos) (.ow (.lst (xs.map g))) := by
  have := ev_lc (ifs := []) (elt := elt) (iter := iter) (scope := scope) (pos := pos) xs enc (fun _ => true) g Γe hc hN ok hi hn ht hst (fun _ _ _ _ _ _ _ _ _ => rfl) (fun x hx _ => he x hx) hs
  rwa [List.filter_eq_self.mpr fun _ _ => rfl] at this
/-- [g for x in xs if pr] -/
theorem e_lcf {α : Type} (xs : List α) (enc : α → D) (pr : α → Bool) (g : α → D) (Γe : α → List Sl) (hc : X.calm = true) (hN : X.N.Nodup) (ok : BlkOk X.N X.env.scope scope own) (hi : Ei X H0 Oc Γ tg iter (xs.map enc)) (hn : xs.length ≤ 1000000)
    (ht : ∀ x ∈ xs, ∀ H0' Oc' s0 H00 C cl fp, Tgw (blkX X scope s0 H00 C cl fp) H0' Oc' (own.map (·.2)) tg (wipeG (Γ.map Sl.arg) (own.map (·.2))) (.va (enc x)) (Γe x))
    (hst : ∀ x ∈ xs, stab (Γe x) = true ∧ Sub (wipeG (Γe x) (own.map (·.2))) (wipeG (Γ.map Sl.arg) (own.map (·.2))))
    (hp : ∀ x ∈ xs, ∀ H0' Oc' s0 H00 C cl fp, Et (blkX X scope s0 H00 C cl fp) H0' Oc' (Γe x) t1 (pr x))
    (he : ∀ x ∈ xs, pr x = true → ∀ H0' Oc' s0 H00 C cl fp, Ev (blkX X scope s0 H00 C cl fp) H0' Oc' (Γe x) elt (.va (g x)))
    (hs : ∀ x, foldedSetIterable iter X.env x = pure x := by intro _; rfl) : Ev X H0 Oc Γ (.ListComp elt [⟨tg, iter, [t1], 0⟩] scope pos) (.ow (.lst ((xs.filter pr).map g))) :=
  ev_lc (ifs := [t1]) (elt := elt) (iter := iter) (scope := scope) (pos := pos) xs enc pr g Γe hc hN ok hi hn ht hst hp he hs
theorem d_setLc {α : Type} (n : Nat) (xs : List α) (enc : α → D) (g : α → D) (Γe : α → List Sl) (hc : X.calm = true) (hN : X.N.Nodup) (ok : BlkOk X.N X.env.scope scope own) (hi : Ei X H0 Oc Γ tg iter (xs.map enc)) (hn : xs.length ≤ 1000000)
    (ht : ∀ x ∈ xs, ∀ H0' Oc' s0 H00 C cl fp, Tgw (blkX X scope s0 H00 C cl fp) H0' Oc' (own.map (·.2)) tg (wipeG (Γ.map Sl.arg) (own.map (·.2))) (.va (enc x)) (Γe x))
    (hst : ∀ x ∈ xs, stab (Γe x) = true ∧ Sub (wipeG (Γe x) (own.map (·.2))) (wipeG (Γ.map Sl.arg) (own.map (·.2))))
    (he : ∀ x ∈ xs, ∀ H0' Oc' s0 H00 C cl fp, Ev (blkX X scope s0 H00 C cl fp) H0' Oc' (Γe x) elt (.va (g x)))
    (hr : Sds X W H0 Oc (Γ.set n (.ow (.lst (xs.map g)))) rest out)
    (hy : X.N[n]? = some y := by rfl) (hyl : X.env.scope.names.lookup y = some .local := by rfl) (hk : X.env.scope.kind = .function := by rfl) (hln : (p.line == pos.line) = true := by rfl)
    (han : (scope.names.any fun (m, k) => m == y && (k == .local || k == .cell)) = false := by rfl)
    (hs : ∀ x, foldedSetIterable iter X.env x = pure x := by intro _; rfl) : Sds X W H0 Oc Γ (.Assign [.Name y p] (.ListComp elt [⟨tg, iter, [], 0⟩] scope pos) pos' :: rest) out :=
  sds_setLc (ifs := []) (elt := elt) (iter := iter) (scope := scope) n xs enc (fun _ => true) g Γe hc hN ok hi hn ht hst (fun _ _ _ _ _ _ _ _ _ => rfl) (fun x hx _ => he x hx) (by rwa [List.filter_eq_self.mpr fun _ _ => rfl]) hy hyl hk hln han hs
theorem d_setLcf {α : Type} (n : Nat) (xs : List α) (enc : α → D) (pr : α → Bool) (g : α → D) (Γe : α → List Sl) (hc : X.calm = true) (hN : X.N.Nodup) (ok : BlkOk X.N X.env.scope scope own) (hi : Ei X H0 Oc Γ tg iter (xs.map enc)) (hn : xs.length ≤ 1000000)
    (ht : ∀ x ∈ xs, ∀ H0' Oc' s0 H00 C cl fp, Tgw (blkX X scope s0 H00 C cl fp) H0' Oc' (own.map (·.2)) tg (wipeG (Γ.map Sl.arg) (own.map (·.2))) (.va (enc x)) (Γe x))
    (hst : ∀ x ∈ xs, stab (Γe x) = true ∧ Sub (wipeG (Γe x) (own.map (·.2))) (wipeG (Γ.map Sl.arg) (own.map (·.2))))
    (hp : ∀ x ∈ xs, ∀ H0' Oc' s0 H00 C cl fp, Et (blkX X scope s0 H00 C cl fp) H0' Oc' (Γe x) t1 (pr x))
    (he : ∀ x ∈ xs, pr x = true → ∀ H0' Oc' s0 H00 C cl fp, Ev (blkX X scope s0 H00 C cl fp) H0' Oc' (Γe x) elt (.va (g x)))
    (hr : Sds X W H0 Oc (Γ.set n (.ow (.lst ((xs.filter pr).map g)))) rest out)
    (hy : X.N[n]? = some y := by rfl) (hyl : X.env.scope.names.lookup y = some .local := by rfl) (hk : X.env.scope.kind = .function := by rfl) (hln : (p.line == pos.line) = true := by rfl)
    (han : (scope.names.any fun (m, k) => m == y && (k == .local || k == .cell)) = false := by rfl)
    (hs : ∀ x, foldedSetIterable iter X.env x = pure x := by intro _; rfl) : Sds X W H0 Oc Γ (.Assign [.Name y p] (.ListComp elt [⟨tg, iter, [t1], 0⟩] scope pos) pos' :: rest) out :=
  sds_setLc (ifs := [t1]) (elt := elt) (iter := iter) (scope := scope) n xs enc pr g Γe hc hN ok hi hn ht hst hp he hr hy hyl hk hln han hs
theorem tw_name {vs : List Nat} {x : Str} {s : Sl} (n : Nat) (hN : X.N.Nodup) (hi : X.N[n]? = some x := by rfl) (hx : Loc X.env.scope x := by first | exact .inl rfl | exact .inr rfl) (hf : X.fn x = true ∨ X.env.scope.names.lookup x = some .local := by first | exact .inr rfl | exact .inl rfl) (hv : n ∈ vs := by simp) : Tgw X H0 Oc vs (.Name x pos') Γ s (Γ.set n s) :=
  tgw_name n hN hi hx hf hv
/-- range(n), n a natural number, as a list of naturals -/
theorem i_rng {j : Nat} (hm : X.mg "range" = none) (ha : Ev X H0 Oc Γ a (.va (.int (j : Int)))) (h2 : j ≤ 1000000000) (hg : Gl X "range" := by rfl) (hs : starEach [a] X.env = [(false, eval a X.env)] := by rfl) (hs' : starEach [a] X.env = (false, eval a X.env) :: starEach [] X.env := by rfl) :
    Ei X H0 Oc Γ tg (.Call (.Name "range" p) [a] [] pos) ((List.range j).map fun k : Nat => D.int k) :=
  (ei_rng1 ha (by omega) (by omega) hm hg hs hs').as (by
    unfold rngD
    rw [show ((j : Int).toNat) = j from rfl]
    exact List.map_congr_left fun k _ => by rw [Int.zero_add])
end
theorem rep_ints (n : Nat) (v : Int) : (List.replicate n [D.int v]).flatten = (List.replicate n v).map .int := by
  induction n with
  | zero => rfl
  | succ n ih => rw [List.replicate_succ, List.flatten_cons, ih, List.replicate_succ]; rfl
theorem cutD_nat {α : Type} (xs : List α) (a b : Nat) : Y.cutD xs (some (a : Int)) (some (b : Int)) = (xs.take b).drop a := by
  unfold Y.cutD
  rw [HT.sIx_nat, HT.sIx_nat]
  apply List.ext_getElem?
  intro i
  rw [List.getElem?_drop, List.getElem?_take, List.getElem?_take, List.getElem?_drop]
  by_cases h : a + i < xs.length
  · have e : min a xs.length = a := by omega
    rw [e]
    by_cases hb : a + i < b
    · rw [if_pos (by omega), if_pos hb]
    · rw [if_neg (by omega), if_neg hb]
  · rw [List.getElem?_eq_none (by omega : xs.length ≤ a + i)]
    by_cases hA : i < min b xs.length - min a xs.length
    · rw [if_pos hA, List.getElem?_eq_none (by omega)]
      split <;> rfl
    · rw [if_neg hA]
      split <;> rfl
theorem cutD_from {α : Type} (xs : List α) (a : Nat) : Y.cutD xs (some (a : Int)) none = xs.drop a := by
  unfold Y.cutD
  rw [HT.sIx_nat, HT.sIx_none]
  by_cases h : a ≤ xs.length
  · rw [Nat.min_eq_left h, List.take_of_length_le (by rw [List.length_drop]; exact Nat.le_refl _)]
  · rw [Nat.min_eq_right (by omega), List.drop_of_length_le (by omega : xs.length ≤ a), List.drop_length]
    exact List.take_nil
theorem cutD_upto {α : Type} (xs : List α) (b : Nat) : Y.cutD xs none (some (b : Int)) = xs.take b := by
  unfold Y.cutD
  rw [HT.sIx_nat, HT.sIx_none]
  by_cases h : b ≤ xs.length
  · rw [Nat.min_eq_left h]; rfl
  · rw [Nat.min_eq_right (by omega), List.take_of_length_le (by omega : xs.length ≤ b)]
    exact List.take_of_length_le (Nat.le_refl _)
theorem cutD_butLast {α : Type} (xs : List α) : Y.cutD xs none (some (-1)) = xs.dropLast := by
  unfold Y.cutD
  rw [HT.sIx_none, List.dropLast_eq_take]
  have e : HT.sIx xs.length xs.length (some (-1)) = xs.length - 1 := by
    show (if (-1 : Int) < 0 then (-1 + (xs.length : Int)).toNat else min (-1 : Int).toNat xs.length) = _
    rw [if_pos (by decide)]
    omega
  rw [e]
  rfl
/-- enumerate -/
def enumF {α : Type} : Nat → List α → List (Nat × α)
  | _, [] => []
  | i, x :: xs => (i, x) :: enumF (i + 1) xs
theorem enumF_get {α : Type} : ∀ (k : Nat) (xs : List α) (i : Nat), (enumF k xs)[i]? = xs[i]?.map fun x => (k + i, x)
  | _, [], _ => by simp [enumF]
  | k, x :: xs, 0 => by simp [enumF]
  | k, x :: xs, i + 1 => by
    show (enumF (k + 1) xs)[i]? = xs[i]?.map _
    rw [enumF_get (k + 1) xs i]
    congr 1
    funext x
    congr 1
    omega
theorem enumF_len {α : Type} : ∀ (k : Nat) (xs : List α), (enumF k xs).length = xs.length
  | _, [] => rfl
  | k, x :: xs => congrArg Nat.succ (enumF_len (k + 1) xs)
theorem enumD_map {α : Type} (enc : α → D) (xs : List α) : enumD (xs.map enc) = (enumF 0 xs).map fun p => .tup [.int (p.1 : Int), enc p.2] := by
  apply List.ext_getElem?
  intro i
  rw [List.getElem?_map, enumF_get]
  cases e : xs[i]? with
  | none =>
    have : (xs.map enc).length ≤ i := by rw [List.length_map]; exact List.getElem?_eq_none_iff.mp e
    rw [List.getElem?_eq_none (by rw [enumD_len]; exact this)]
    rfl
  | some x =>
    rw [enumD_get (d := enc x) (by rw [List.getElem?_map, e]; rfl)]
    simp
section
variable {X : Cx} {W : WX} {H0 : Hp} {Oc : List Addr} {Γ : List Sl} {a : Expr} {p pos : Pos} {s : Sl}
theorem i_enum {α : Type} (enc : α → D) (xs : List α) {elts : List Expr} {kk : Nat} {tpos : Pos} (hm : X.mg "enumerate" = none) (ha : Ev X H0 Oc Γ a s) (hs : s.held = some (.lst (xs.map enc)) := by rfl) (hg : Gl X "enumerate" := by rfl) (hst : starEach [a] X.env = [(false, eval a X.env)] := by rfl) (hst' : starEach [a] X.env = (false, eval a X.env) :: starEach [] X.env := by rfl) :
    Ei X H0 Oc Γ (.Tuple elts kk tpos) (.Call (.Name "enumerate" p) [a] [] pos) ((enumF 0 xs).map fun p => .tup [.int (p.1 : Int), enc p.2]) :=
  (ei_enum ha hs hm hg hst hst').as (enumD_map enc xs)
theorem t_two {x z : Str} {p2 p3 : Pos} {kk : Nat} {d1 d2 : D} (n1 n2 : Nat) (hc : X.calm = true) (hN : X.N.Nodup) (h1 : X.N[n1]? = some x := by rfl) (h2 : X.N[n2]? = some z := by rfl) (hx : Loc X.env.scope x := by first | exact .inl rfl | exact .inr rfl) (hz : Loc X.env.scope z := by first | exact .inl rfl | exact .inr rfl) (hf : X.fn x = true ∨ X.env.scope.names.lookup x = some .local := by first | exact .inr rfl | exact .inl rfl) (hg : X.fn z = true ∨ X.env.scope.names.lookup z = some .local := by first | exact .inr rfl | exact .inl rfl) :
    Tg X H0 Oc (.Tuple [.Name x p, .Name z p2] kk p3) Γ (.va (.tup [d1, d2])) ((Γ.set n1 (.va d1)).set n2 (.va d2)) := tg_tup2 n1 n2 hc hN h1 h2 hx hz hf hg
theorem t_seq {a : Expr} {d : D} {ds : List D} (ha : Ev X H0 Oc Γ a (.bw d)) (hd : seqD d = some ds := by rfl) (he : ∀ whole, isTrue a X.env whole = (do let v ← whole; standAt a.pos; holding [v] (truthy v)) := by intro _; rfl) : Et X H0 Oc Γ a (!ds.isEmpty) := et_seq ha hd he
/-- self.f = e -/
theorem d_fld {W : WX} {e : Expr} {d d1 : D} {C : Addr} {ns : List Str} {ds : List D} {f x : Str} {rest : List Stmt} {out : Out} {pp : Pos} (n : Nat) (cl : Cls X.K C) (na : NoAttr X.K C f) (he : Ev X H0 Oc Γ e (.va d1)) (hr : Sds X W H0 Oc (Γ.set n (.ow (d.put (ns ++ [f]) (ds ++ [d1])))) rest out)
    (h : Γ[n]? = some (.ow d) := by rfl) (ho : d.own = some (C, ns, ds) := by rfl) (hst : stab Γ = true := by rfl) (hf : f ∉ ns := by decide) (hlen : ns.length < 1000 := by decide)
    (hN : X.N[n]? = some x := by rfl) (hv : Vis X.env.scope x := by first | exact .inl rfl | exact .inr (.inl rfl) | exact .inr (.inr rfl)) (hd : (x == ("__debug__" : Str)) = false := by rfl) (hcd : (x == ("__classdict__" : Str)) = false := by rfl)
    (hs : swapsWith e (some (.Attribute (.Name x p) f pp)) pos.line X.env = pure false := by rfl) : Sds X W H0 Oc Γ (.Assign [.Attribute (.Name x p) f pp] e pos :: rest) out := sds_fld n h ho hst cl na hf hlen he hr hN hv hd hcd hs
end
end Y

namespace Y
open PySem L2
/-! ## comparable data -/
def okN (n : Nat) (d : D) : Prop := isPy d = true ∧ (py d).canLay0 = true ∧ (py d).depth ≤ n
def okNs (n : Nat) (ds : List D) : Prop := isPys ds = true ∧ PyData.canLayAll0 (pys ds) = true ∧ PyData.depthAll (pys ds) ≤ n
theorem okN.ok {n : Nat} {d : D} (h : okN n d) (hn : n ≤ 64) : okD d = true := by
  unfold okD SeqAt.shaped
  rw [h.1, h.2.1, decide_eq_true (Nat.le_trans h.2.2 hn)] <;> rfl
theorem okN_int {n : Nat} {i : Int} : okN n (.int i) := ⟨rfl, rfl, Nat.zero_le _⟩
theorem okN_bl {n : Nat} {b : Bool} : okN n (.bl b) := ⟨rfl, rfl, Nat.zero_le _⟩
theorem okN_non {n : Nat} : okN n .non := ⟨rfl, rfl, Nat.zero_le _⟩
theorem okNs_nil {n : Nat} : okNs n [] := ⟨rfl, rfl, Nat.zero_le _⟩
theorem okNs_cons {n : Nat} {d : D} {ds : List D} (h : okN n d) (g : okNs n ds) : okNs n (d :: ds) := by
  refine ⟨?_, ?_, ?_⟩
  · show (isPy d && isPys ds) = true
    rw [h.1, g.1] <;> rfl
  · show ((py d).canLay0 && PyData.canLayAll0 (pys ds)) = true
    rw [h.2.1, g.2.1] <;> rfl
  · show max (py d).depth (PyData.depthAll (pys ds)) ≤ n
    exact Nat.max_le.mpr ⟨h.2.2, g.2.2⟩
theorem okNs_all {n : Nat} : ∀ {ds : List D}, (∀ d ∈ ds, okN n d) → okNs n ds
  | [], _ => okNs_nil
  | _ :: _, h => okNs_cons (h _ List.mem_cons_self) (okNs_all fun d hd => h d (List.mem_cons_of_mem _ hd))
theorem okN_tup {n : Nat} {ds : List D} (h : okNs n ds) : okN (n + 1) (.tup ds) := ⟨h.1, h.2.1, by
  show PyData.depthAll (pys ds) + 1 ≤ n + 1
  have := h.2.2
  omega⟩
theorem okN_lst {n : Nat} {ds : List D} (h : okNs n ds) : okN (n + 1) (.lst ds) := ⟨h.1, h.2.1, by
  show PyData.depthAll (pys ds) + 1 ≤ n + 1
  have := h.2.2
  omega⟩
theorem okN_map {α : Type} {n : Nat} {f : α → D} {xs : List α} (h : ∀ x, okN n (f x)) : okNs n (xs.map f) := okNs_all fun d hd => by
  obtain ⟨x, _, e⟩ := List.mem_map.mp hd
  exact e ▸ h x
/-- codes that == tells apart as Lean does -/
def EqC {α : Type} [DecidableEq α] (f : α → D) : Prop := ∀ x y, eqD (f x) (f y) = decide (x = y)
def eqDs (xs ys : List D) : Bool := PyData.eqvAll (pys xs) (pys ys)
theorem eqDs_map {α : Type} [DecidableEq α] {f : α → D} (h : EqC f) : ∀ (xs ys : List α), eqDs (xs.map f) (ys.map f) = decide (xs = ys)
  | [], [] => rfl
  | [], _ :: _ => rfl
  | _ :: _, [] => rfl
  | x :: xs, y :: ys => by
    show (eqD (f x) (f y) && eqDs (xs.map f) (ys.map f)) = _
    rw [h x y, eqDs_map h xs ys]
    by_cases a : x = y <;> by_cases b : xs = ys <;> simp [a, b]
theorem eqC_int : EqC (D.int) := fun x y => by
  show (x == y) = _
  by_cases h : x = y <;> simp [h]
theorem eqC_tup {α : Type} [DecidableEq α] {f : α → D} (h : EqC f) : EqC fun xs : List α => D.tup (xs.map f) := fun xs ys => eqDs_map h xs ys
theorem eqC_lst {α : Type} [DecidableEq α] {f : α → D} (h : EqC f) : EqC fun xs : List α => D.lst (xs.map f) := fun xs ys => eqDs_map h xs ys
section
variable {X : Cx} {H0 : Hp} {Oc : List Addr} {d1 d2 : D}
/-- a == b of two such data -/
theorem c_eq {α : Type} [DecidableEq α] {f : α → D} (hu : X.A.units + 64 < cLine) (h : EqC f) (n : Nat) (hk : ∀ x, okN n (f x)) (hn : n ≤ 64) (x y : α) : C2 X H0 Oc .Eq (.bw (f x)) (.bw (f y)) (decide (x = y)) := h x y ▸ cm_eqD hu ((hk x).ok hn) ((hk y).ok hn)
theorem c_ne {α : Type} [DecidableEq α] {f : α → D} (hu : X.A.units + 64 < cLine) (h : EqC f) (n : Nat) (hk : ∀ x, okN n (f x)) (hn : n ≤ 64) (x y : α) : C2 X H0 Oc .NotEq (.bw (f x)) (.bw (f y)) (!decide (x = y)) := h x y ▸ cm_neD hu ((hk x).ok hn) ((hk y).ok hn)
theorem hu64 {A : Around} {k : Nat} (hr : Room k A) : A.units + 64 < cLine := by
  have := hr.un
  omega
end
section
variable {X : Cx} {H0 : Hp} {Oc : List Addr} {Γ : List Sl} {ad C dd : Addr} {oe : Obj} {pn : List (Addr × Obj)} {ns : List Str} {ds : List D} {a b : Expr} {x f : Str} {p p2 pos : Pos} {cv : V} {u : Value} {q : Bool} {d : D}
/-- isinstance(e, C), e the suite's own exception -/
theorem e_isE (hm : X.mg "isinstance" = none) (T : XcE X.K C) (hz : L2N.Zn (.ref C) (some dd) oe) (hf : ∃ vs, oe.data = .fields vs) (ha : Ev (X.suite ad ((ad, oe) :: pn)) H0 Oc Γ a (.va (.er ad C dd ns ds))) (hb : Ev (X.suite ad ((ad, oe) :: pn)) H0 Oc Γ b (.va (.opq cv)))
    (k : ClsV cv u) (hk : PySem.W.kitOne X.K (.ref C) u = some q) (hg : Gl X "isinstance" := by rfl)
    (he : starEach [a, b] X.env = (false, eval a X.env) :: starEach [b] X.env := by rfl) (he2 : starEach [b] X.env = (false, eval b X.env) :: starEach [] X.env := by rfl) (hpl : (backTo pos (starEach [b] X.env)).any (·.1) = false := by rfl) : Ev (X.suite ad ((ad, oe) :: pn)) H0 Oc Γ (.Call (.Name "isinstance" p) [a, b] [] pos) (.va (.bl q)) :=
  ev_isiE T hz hf ha hb k hk hm hg he he2 hpl
theorem e_cls {C : Addr} (hm : X.mg x = some (.ref C)) (hg : Gl X x := by rfl) (hdb : (x == ("__debug__" : Str)) = false := by decide) : Ev X H0 Oc Γ (.Name x pos) (.va (.opq (.ref C))) := ev_cls hg hm hdb
theorem e_ty {T : String} (hm : X.mg x = none) (hv : bootBuiltins x = some (.type T)) (hg : Gl X x := by rfl) (hn : x ≠ "__name__" := by decide) (hdb : (x == ("__debug__" : Str)) = false := by decide) : Ev X H0 Oc Γ (.Name x pos) (.va (.opq (.ty T))) := ev_ty hg hm hv hn hdb
end
end Y

namespace Y
open PySem PySem.Spec PyProof.Rows L2
/-! ## the ends -/
def pLaw : Pm := fun Γ o => ∃ ns : List Int, Γ = [.va (.fz (ns.map .int))] ∧ ns.length ≤ 63 ∧ o = .ret (.va (.bl true))
theorem law_sp {K : PySem.W.Frag} {H : Hp} {a : Addr} {ns : List Int} (hl : ns.length ≤ 63) (hS : SqL K H a (ns.map V.int)) : mkSp K pLaw [.ref a] H (fun v _ => v = .bl true) fun _ _ _ => False := by
  have ec : cut H [] = H := by
    funext b
    exact cut_out (by simp)
  refine ⟨[], _, _, ⟨ns, rfl, hl, rfl⟩, ⟨[], by simp, by simp, by simp, by simp, fun _ _ z => z, rfl, fun i s x h1 h2 => ?_, fun i j p d d' h1 h2 h3 h4 => ?_⟩, fun v H' ⟨O, w⟩ => ?_⟩
  · cases i with
    | zero =>
      cases h1
      cases h2
      refine ⟨_, rfl, a, ns.map V.int, rfl, ?_, Reps.of_ints⟩
      rw [ec]
      exact hS
    | succ i => cases h1
  · cases i with
    | zero => cases h1
    | succ i => cases h1
  · obtain ⟨u, e, r⟩ := w.head
    cases e
    exact r
theorem noCX {P : Program} {w : World} {H : Hp} {s : Shared} {e : Value} {s' : Shared} (c : L2N.CX P w [] H s (fun _ _ _ => False) e s') : False := by
  obtain ⟨_, _, _, _, _, _, _, _, _, _, _, _, z⟩ := c
  exact z
theorem walk (k : Nat) (hr : Room k callerA) {l : PySem.W.OpenLaw} {q : Program} {loose : List Str} {XP : (Str → Option Value) → Heap → Prop} {YP : World → Heap → Prop} {d : DefRec} {K : Params → PySem.W.Frag} (hn : l.most = some 63) (hdf : d.params.defaults = [])
    (hY : ∀ (w : World) (h : Heap), YP w h → (K w.params).In h)
    (F : ∀ (w : World) (mg : Str → Option Value) (fa : Addr) (h : Heap), (K w.params).In h → h.Ns mainGlobals mg → mg d.name = some (.ref fa) →
      ∃ fd : FuncData, (∀ (s : Shared) (u : Value), BindsTo s fd ⟨[u], []⟩ [("script", u)]) ∧ ∀ base : Heap, (K w.params).In base → base.Ns mainGlobals mg → FnOk l.prog w (K w.params) mg base (L2N.CX l.prog w) k fa fd ["script"] (mkSp (K w.params) pLaw)) :
    PySem.W.WalkO q loose XP YP l.row.toRowW d [] (fun f vs => PySem.call f vs) :=
  L2.walk_of (n := 63) (k := k) (x := "script") (CX := fun w => L2N.CX l.prog w) (sp := fun w => mkSp (K w.params) pLaw) hn (by decide) hdf hr hY F (fun _ _ a ns hl _ hS => law_sp hl hS) fun _ _ _ _ _ z => noCX z
/-! ### facts of the written part -/
theorem pins_of {K : PySem.W.Frag} {C : Addr} (cl : Cls K C) (ha : PySem.W.findIn K (.ref C) "__class__" = some (some (.builtin "object.__class__"))) (hn : PySem.W.specialIn K (.builtin "object.__class__") "__get__" = some (some (.builtin "getset_descriptor.__get__"))) (tk : PySem.W.takesIn K (.builtin "object.__class__") = some true) (hm : PySem.W.mroIn K C (.type "object") = some true) : IsC K C := ⟨cl, ha, hn, tk, hm⟩
section
variable {P : Program} {K : PySem.W.Frag} {mg : Str → Option Value} {C fI cda cc : Addr} {x f g txt qual : Str} {st : Stmt} {dV kV doc pm ct oc : Value} {an od : Option Addr} {osl : Array (Option Value)}
/-- what the head asks of an own error: its class, the def of its __init__, the code, the cell of __class__ -/
structure ErrF (P : Program) (K : PySem.W.Frag) (mg : Str → Option Value) (C cda cc : Addr) : Prop where
  ox : OexC K C
  sub : PySem.W.mroIn K C (.ref C) = some true
  sup : PySem.W.ks_superIn K C C "__init__" = some (some (.builtin "ValueError.__init__"))
  ve : PySem.W.subIn K (.ref C) (.type "ValueError") = some true
  code : ∃ ccl cdd vs ccs file tf, K.lookup cda = some ⟨ccl, cdd, .fields vs, ccs⟩ ∧ vs[2]? = some (.str file tf) ∧ ((P.main.file : Str) == file) = true
  top : (P.main.scope.names.lookup ("super" : Str)).isSome = false
  noSup : mg "super" = none
  cls : (PySem.W.clsIn K C).isSome = true
  thr : PySem.W.nsIn K PySem.cStatics "thirdparty.any" = some none
  hcell : ∃ cl cld csl, K.lookup cc = some ⟨cl, cld, .cell (some (.ref C)), csl⟩
theorem ErrF.te (E : ErrF P K mg C cda cc) : Sup.SupE K C C := ⟨E.ox, E.sub, E.sup, E.ve⟩
theorem ErrF.at1 (E : ErrF P K mg C cda cc) {fd : FuncData} (hf : ∃ oc od osl, K.lookup fI = some ⟨oc, od, .func fd, osl⟩) (hp : ∃ ar : Arg, (fd.params.posonlyargs ++ fd.params.args).head? = some ar ∧ ar.arg = "self") : Sup.SupAt P K mg fI cda cc C fd "self" :=
  ⟨hf, hp, E.code, E.top, E.noSup, Option.isSome_iff_exists.mp E.cls, E.thr⟩
theorem err1 {ar : Arguments} {bd : List Stmt} {nm : List (Str × NameKind)} (E : ErrF P K mg C cda cc) (gl : mg x = some (.ref C)) (iC : PySem.W.findIn K (.ref C) "__init__" = some (some (.ref fI))) (tI : PySem.W.typeIn K (.ref fI) = some (.type "function"))
    (lk : K.lookup fI = some ⟨oc, od, .func (PySem.W.fnX "__init__" qual ar bd (Sup.scOf nm) [("__class__", cc)] dV kV doc pm an (.ref cda) ct), osl⟩) (hcd : PySem.W.codeIn K (.ref cda) qual = true)
    (S : NdefX.NScope ["self", f, "__class__"] ["self", f] ["__class__"] (Sup.scOf nm)) (hsc : Sup.exSc (Sup.scOf nm) = true) (hb : Sup.exB1 txt f bd)
    (hp : ∃ a : Arg, (ar.posonlyargs ++ ar.args).head? = some a ∧ a.arg = "self") (noF : PySem.W.findIn K (.ref C) f = some none)
    (hbd : ∀ us : List Value, us.length = 2 → bindArgs (PySem.W.fnX "__init__" qual ar bd (Sup.scOf nm) [("__class__", cc)] dV kV doc pm an (.ref cda) ct) ⟨us, []⟩ = pure ((["self", f] : List Str).zip us))
    (hd1 : (f == ("__debug__" : Str)) = false := by decide) (hd2 : (f == ("__classdict__" : Str)) = false := by decide) : Sup.Ex1 P K mg x f C :=
  ⟨gl, E.te, fI, _, iC, tI, .all hbd, fun w base CX => Sup.ok_ex1 lk hcd S hsc hb (E.at1 ⟨_, _, _, lk⟩ hp) E.te E.hcell noF hd1 hd2⟩
theorem err2 {ar : Arguments} {bd : List Stmt} {nm : List (Str × NameKind)} (E : ErrF P K mg C cda cc) (gl : mg x = some (.ref C)) (iC : PySem.W.findIn K (.ref C) "__init__" = some (some (.ref fI))) (tI : PySem.W.typeIn K (.ref fI) = some (.type "function"))
    (lk : K.lookup fI = some ⟨oc, od, .func (PySem.W.fnX "__init__" qual ar bd (Sup.scOf nm) [("__class__", cc)] dV kV doc pm an (.ref cda) ct), osl⟩) (hcd : PySem.W.codeIn K (.ref cda) qual = true)
    (S : NdefX.NScope ["self", f, g, "__class__"] ["self", f, g] ["__class__"] (Sup.scOf nm)) (hsc : Sup.exSc (Sup.scOf nm) = true) (hb : Sup.exB2 txt f g bd)
    (hp : ∃ a : Arg, (ar.posonlyargs ++ ar.args).head? = some a ∧ a.arg = "self") (noF : PySem.W.findIn K (.ref C) f = some none) (noG : PySem.W.findIn K (.ref C) g = some none)
    (hbd : ∀ us : List Value, us.length = 3 → bindArgs (PySem.W.fnX "__init__" qual ar bd (Sup.scOf nm) [("__class__", cc)] dV kV doc pm an (.ref cda) ct) ⟨us, []⟩ = pure ((["self", f, g] : List Str).zip us))
    (hd1 : (f == ("__debug__" : Str)) = false := by decide) (hd2 : (f == ("__classdict__" : Str)) = false := by decide) (hd3 : (g == ("__debug__" : Str)) = false := by decide) (hd4 : (g == ("__classdict__" : Str)) = false := by decide) : Sup.Ex2 P K mg x f g C :=
  ⟨gl, E.te, fI, _, iC, tI, .all hbd, fun w base CX => Sup.ok_ex2 lk hcd S hsc hb (E.at1 ⟨_, _, _, lk⟩ hp) E.te E.hcell noF noG hd1 hd2 hd3 hd4⟩
end
end Y

namespace Sup
open PySem PySem.Spec PyProof.Rows L2 NdefX
/-! ## super().__init__(..) of an instance: the next class's def -/
structure SupI (K : PySem.W.Frag) (C D f2 : Addr) : Prop where
  cls : ∃ cd, PySem.W.clsIn K C = some cd
  sub : PySem.W.mroIn K C (.ref D) = some true
  sup : PySem.W.ks_superIn K C D "__init__" = some (some (.ref f2))
  ty : PySem.W.typeIn K (.ref f2) = some (.type "function")
  fi : PySem.W.fnIn K f2 = true
def tSupI (i j : Nat) (C D : Addr) (sp : Sp) (ta : TA) (u : TS) : TS := fun E σ H => ∃ (a dx : Addr) (fs : List (Str × V)), σ[j]? = some (some (.ref D)) ∧ σ[i]? = some (some (.ref a)) ∧ H a = some (.ins C dx fs) ∧
  ta σ H fun vs H1 => sp (.ref a :: vs) H1 (fun _ H2 => u E σ H2) E0
theorem psa_superI {X : Cx} {CX : CXT} {body : List Stmt} {rest : List Stmt} {p0 p1 p2 p3 p4 : Pos} {f cda cc C D f2 : Addr} {fd fd2 : FuncData} {sf : Str} {i j k : Nat} {e : Expr} {es : List Expr} {ta : TA} {u : TS} {pl : Sem Bool} {ps : List Str} {sp : Sp}
    (T : SupAt X.prog X.K X.mg f cda cc D fd sf) (S : SupI X.K C D f2) (F2 : FnOk X.prog X.w X.K X.mg X.base CX k f2 fd2 ps sp) (hrm : Room k X.A) (hb : L2.Binds X.K fd2 ps []) (hx : Passes CX X E0)
    (hfu : X.env.func = some f) (hco : X.env.code = .ref cda) (hks : X.env.kindOf "super" = some .globalImplicit) (hkc : X.env.kindOf "__class__" = some .free) (hka : X.env.kindOf sf = some .local)
    (hNi : X.N[i]? = some sf) (hNj : X.N[j]? = some ("__class__" : Str))
    (ha : PA X (e :: es) ta) (hr : PSA X (.func body X.env) rest u)
    (hi : interactive X.env = false) (hs : swapsWith (.Call (.Attribute (.Call (.Name "super" p0) [] [] p1) "__init__" p2) (e :: es) [] p3) none p4.line X.env = pure false)
    (he : starEach (e :: es) X.env = (false, eval e X.env) :: starEach es X.env) (hpl : (backTo p3 (starEach es X.env)).any (·.1) = false)
    (hev : eval (.Call (.Attribute (.Call (.Name "super" p0) [] [] p1) "__init__" p2) (e :: es) [] p3) X.env = (do
      let ov ← attributeBase (.Call (.Name "super" p0) [] [] p1) "__init__" X.env (eval (.Call (.Name "super" p0) [] [] p1) X.env)
      standAt p2.atName
      let (f, first) ← holding [ov] (getMethod ov "__init__" pl)
      callWith p3 f first (backTo p3 (starEach (e :: es) X.env)) [])) :
    PSA X (.func body X.env) (.Expr (.Call (.Attribute (.Call (.Name "super" p0) [] [] p1) "__init__" p2) (e :: es) [] p3) p4 :: rest) (tSupI i j C D sp ta u) := by
  refine ⟨fun pins s σ H D' I q => ?_⟩
  obtain ⟨a, dx, fs, hcls, hself, ea, q⟩ := q
  obtain ⟨cd, hcd⟩ := S.cls
  obtain ⟨_, Oa, _⟩ := ins_get I.hok ea
  obtain ⟨od, Ja, _⟩ := Oa.look
  have hno : ∀ c, (PySem.W.instObj C dx).data ≠ .cls c := fun c z => by
    have := Ja.no
    unfold PySem.W.notCls at this
    rw [z] at this
    exact Bool.noConfusion this
  refine ks_wpAt_execs_cons (ks_wpAt_Expr_any ?_ hi hs)
  refine ks_wpAt_MethodCall (pl := pl) ?_ hev
  refine sup_base T hfu hco hks hkc hka (by decide) hNi hNj hself hcls I Ja.at_ Ja.cls hno S.sub fun so h' hso J kp => ?_
  have KJ := J.kIn
  have JA : PySem.W.InstAt h' a (PySem.W.instObj C dx) C (some od) := by
    obtain ⟨_, Ob, _⟩ := ins_get J.hok ea
    obtain ⟨od2, Jb, _⟩ := Ob.look
    exact ⟨kp _ _ Ja.at_, Ja.cls, Ja.no, kp _ _ Ja.dict⟩
  obtain ⟨of, hof, hofc⟩ : ∃ of, h'.get? f2 = some of ∧ of.cls = .type "function" := by
    have ht : (X.K.lookup f2).map (·.cls) = some (.type "function") := S.ty
    cases z : X.K.lookup f2 with
    | none => rw [z] at ht; cases ht
    | some of => rw [z] at ht; exact ⟨of, KJ _ _ z, Option.some.inj ht⟩
  have hf := S.sup
  unfold PySem.W.ks_superIn at hf
  rw [hcd] at hf
  obtain ⟨hh, g, d, t, os⟩ := s
  refine ks_wpAny_getMethod_super hso (PySem.W.looks_opaque KJ T.thr) (l₀ := cd.mro) (fun A Q E s k q => wpAny_bind ((PySem.W.looks_clsIn KJ hcd) A _ E s k (wpAny_pure q))) rfl KJ hf hof hofc (PySem.W.ks_ne KJ JA hcd) (by decide) ?_
  have J2 := pin_new (t' := t + 1) J (h' := h'.push (PySem.W.methodObj (.ref f2) (.ref a))) (q := h'.objs.size) (o := PySem.W.methodObj (.ref f2) (.ref a)) (fun b u e => Heap.get?_push_of_some _ e) (Nat.le_refl _) (Heap.get?_push_at rfl rfl) (fun v z => nomatch z)
  have keep := PySem.W.keeps_M (M := model X.prog X.w) (K := X.K) (q := h'.objs.size) (f := f2) (self := .ref a) S.fi
  have hrun := ha.run p3 _ _ σ H _ J2 q
  rw [he] at hrun ⊢
  refine PySem.W.callWith_of (P := PySem.W.MethP X.K h'.objs.size f2 (.ref a)) ?_ keep (Calls.evalArgs_plain ?_)
  · show ((false || (backTo p3 (starEach es X.env)).any (·.1)) || false) = false
    rw [hpl]
    rfl
  refine thn hrun fun us s1 ⟨vs, H1, I1, r1, q1⟩ => ?_
  have hu : s1.heap.get? h'.objs.size = some (PySem.W.methodObj (.ref f2) (.ref a)) := (I1.pin (h'.objs.size, PySem.W.methodObj (.ref f2) (.ref a)) (List.mem_append_right _ List.mem_cons_self)).1
  refine ⟨⟨hu, I1.kIn⟩, ?_⟩
  have I2 := unpin I1
  have rv : Vals (V.ref a :: vs) (Value.ref a :: us) := .cons rfl r1
  have len : (Value.ref a :: us).length = ps.length := rv.length.symm.trans (F2.len _ _ _ _ q1)
  have bb := hb _ _ I2.kIn (by rw [List.append_nil]; exact len)
  rw [List.append_nil] at bb
  refine wpAny_call (PySem.ks_codeAny_call_bound hu ?_)
  refine codeAny_mono (F2.run X.A X.stack s1 H1 _ _ _ _ _ hrm I2.env0 bb rv q1) fun r s' done => ?_
  match r, done with
  | .error er, done => exact hx _ _ _ _ er s' I2 done
  | .ok .next, done => exact done.elim
  | .ok .brk, done => exact done.elim
  | .ok .cont, done => exact done.elim
  | .ok (.ret w), done =>
    obtain ⟨v, H2, I3, _, q3⟩ := I2.after done
    exact hr.run pins s' σ H2 D' I3 q3
end Sup

namespace Y
open PySem PySem.Spec PyProof.Rows L2 Sup NdefX
/-! ## bodies with super().__init__(..) of a subclass -/
def wpSA (X : Cx) (c : Code) (st : List Stmt) : TS := fun D σ H => ∀ (pins : List (Addr × Obj)) (s : Shared), Inv X pins σ H s → _root_.PySem.wpAt (model X.prog X.w) X.A c (execs st X.env) (SP X pins D) X.xe s
section
variable {X : Cx} {c : Code} {st : Stmt} {rest : List Stmt} {σ : L2.St} {H : Hp} {D : Ends}
theorem psa_wp {sts : List Stmt} : PSA X c sts (wpSA X c sts) := ⟨fun pins s σ H D I h => h pins s I⟩
theorem wpSA.of {sts : List Stmt} {t : TS} (h : PSA X c sts t) (q : t D σ H) : wpSA X c sts D σ H := fun pins s I => h.run pins s σ H D I q
theorem exec_one {M : Model} {A : Around} {E : Value → Shared → Prop} {env : Env} {Q : Flow → Shared → Prop} {s : Shared} (h : wpAny M A (execs [st] env) Q E s) : wpAny M A (exec st env) Q E s := fun Γ p hΓ => by
  have h1 := h Γ p hΓ
  rw [execs_cons, Sem.wp_bind'] at h1
  refine Sem.wp_mono M Γ _ (fun f p' s' h' => ?_) (fun _ _ _ h' => h') _ _ h1
  cases f <;> exact h'
theorem ps_one : PS X st (wpSs X [st]) := ⟨fun pins s σ H D I h => exec_one (h pins s I)⟩
end
def SdsA (X : Cx) (W : WX) (H0 : Hp) (Oc : List Addr) (c : Code) (Γ : List Sl) (st : List Stmt) (o : Out) : Prop := ∀ (σ : L2.St) (H : Hp) (D : Ends), Wf X.K H0 Oc Γ σ H → Sat X W H0 Oc [] [] D o → wpSA X c st D σ H
section
variable {X : Cx} {W : WX} {H0 : Hp} {Oc : List Addr} {c : Code} {Γ Γ1 : List Sl} {st : Stmt} {rest : List Stmt} {out : Out}
theorem sa_of {sts : List Stmt} (h : Sds X W H0 Oc Γ sts out) : SdsA X W H0 Oc c Γ sts out := fun σ H D w k => wpSA.of (psa_of pss_wp) (h [] [] σ H D rfl rfl w k)
theorem sa_cons (h1 : Sds X W H0 Oc Γ [st] (.nx Γ1)) (h2 : SdsA X W H0 Oc c Γ1 rest out) : SdsA X W H0 Oc c Γ (st :: rest) out := fun σ H D w k =>
  wpSA.of (psa_cons ps_one psa_wp) (h1 [] [] σ H _ rfl rfl w fun σ' H' w' => h2 σ' H' D w' k)
theorem sa_exit (h1 : Sds X W H0 Oc Γ [st] out) (hx : out.exit = true) : SdsA X W H0 Oc c Γ (st :: rest) out := fun σ H D w k =>
  wpSA.of (psa_cons (u := wpSA X c rest) ps_one psa_wp) (h1 [] [] σ H _ rfl rfl w (k.exit hx))
/-- the heap without one object -/
def less (H : Hp) (a : Addr) : Hp := fun b => if b = a then none else H b
theorem less_ne {H : Hp} {a b : Addr} (h : b ≠ a) : less H a b = H b := if_neg h
theorem less_same {H : Hp} {a : Addr} : less H a a = none := if_pos rfl
/-- values that stand frozen -/
def vaD : List Sl → Option (List D)
  | [] => some []
  | .va d :: ss => (vaD ss).map (d :: ·)
  | _ :: _ => none
theorem vaD_at : ∀ {ss : List Sl} {ds : List D}, vaD ss = some ds → ss = ds.map .va
  | [], _, h => by cases h; rfl
  | s :: ss, ds, h => by
    cases s <;> first | (cases h; done) | skip
    rename_i d
    unfold vaD at h
    cases e : vaD ss with
    | none => rw [e] at h; cases h
    | some ds' =>
      rw [e] at h
      cases h
      rw [vaD_at e]
      rfl
theorem args_va {K : PySem.W.Frag} {H : Hp} {O : List Addr} : ∀ {ds : List D} {vs : List V}, ArgsOk K H0 O H (ds.map .va) vs → Reps K (cut H O) ds vs
  | [], _, h => h
  | _ :: _, _, ⟨v, us, h1, ⟨v', e, h2⟩, h3⟩ => by
    cases e
    exact ⟨v, us, h1, h2, args_va h3⟩
/-- the object in slot i is lent to its next class's __init__ -/
theorem WfO.lend {K : PySem.W.Frag} {H : Hp} {O : List Addr} {G : List Sl} {S : List (Option V)} {i : Nat} {a C : Addr} {ds : List D} {vs : List V} (w : WfO K H0 Oc O G S H) (h1 : G[i]? = some (.ow (.slf a C [] []))) (h2 : S[i]? = some (some (.ref a))) (hr : Reps K (cut H O) ds vs) :
    WfO K (less H a) (O.filter (· ≠ a)) O (.ow (.obj C [] []) :: ds.map .va) (some (.ref a) :: vs.map some) H := by
  obtain ⟨hO, h0, o, hp, ho⟩ := w.owner h1 h2
  refine ⟨fun b z => (List.mem_filter.mp z).1, fun b z => ?_, fun b z => ?_, w.live, fun b u z => ?_, ?_, fun j s x h3 h4 => ?_, fun j k q d1 d2 h3 h4 h5 h6 => ?_⟩
  · by_cases e : b = a
    · exact .inr (by rw [e]; exact less_same)
    · exact .inl (List.mem_filter.mpr ⟨z, by simpa using e⟩)
  · obtain ⟨z1, z2⟩ := List.mem_filter.mp z
    rw [less_ne (by simpa using z2)]
    exact w.live b z1
  · by_cases e : b = a
    · rw [e, less_same] at z; cases z
    · rw [less_ne e] at z; exact z
  · have := hr.len
    simp [this]
  · cases j with
    | zero =>
      cases h3
      cases h4
      refine ⟨a, o, rfl, hO, less_same, hp, ?_⟩
      cases o <;> first | exact ho.elim | exact ⟨ho.1.1, ho.2⟩
    | succ j =>
      have h3' : (ds.map Sl.va)[j]? = some s := h3
      have h4' : (vs.map some)[j]? = some x := h4
      rw [List.getElem?_map] at h3' h4'
      cases e : ds[j]? with
      | none => rw [e] at h3'; cases h3'
      | some d =>
        rw [e] at h3'
        cases h3'
        obtain ⟨v, e2, rv⟩ := hr.get e
        rw [e2] at h4'
        cases h4'
        exact ⟨v, rfl, rv⟩
  · have only : ∀ j d, (Sl.ow (.obj C [] []) :: ds.map Sl.va)[j]? = some (.ow d) → j = 0 := fun j d h => by
      cases j with
      | zero => rfl
      | succ j =>
        have h' : (ds.map Sl.va)[j]? = some (.ow d) := h
        rw [List.getElem?_map] at h'
        cases e : ds[j]? with
        | none => rw [e] at h'; cases h'
        | some d' => rw [e] at h'; cases h'
    rw [only j d1 h3, only k d2 h5]
/-- .. and comes back -/
theorem WfO.back {K : PySem.W.Frag} {H H' : Hp} {O : List Addr} {G : List Sl} {S : List (Option V)} {i : Nat} {a C : Addr} {ns : List Str} {es : List D} (w : WfO K H0 Oc O G S H) (hb : stab G = true) (h1 : G[i]? = some (.ow (.slf a C [] []))) (h2 : S[i]? = some (some (.ref a)))
    (w' : Wf K (less H a) (O.filter (· ≠ a)) [.ow (.obj C ns es)] [some (.ref a)] H') : Wf K H0 Oc (G.set i (.ow (.slf a C ns es))) S H' := by
  obtain ⟨O2, w'⟩ := w'
  obtain ⟨hO, h0, o, hp, ho⟩ := w.owner h1 h2
  obtain ⟨p', o', e, k2, k3, k4, k5⟩ := w'.head
  cases e
  have hi : i < G.length := (List.getElem?_eq_some_iff.mp h1).1
  have keep : ∀ b u, b ≠ a → H b = some u → H' b = some u := fun b u e z => w'.ex b u (by rw [less_ne e]; exact z)
  have fr : Ex (cut H O) (cut H' O2) := fun b u z => by
    obtain ⟨z1, z2⟩ := cut_iff.mp z
    have ne : b ≠ a := fun e => by
      rcases z2 with n | ⟨vs, rfl⟩
      · exact n (e ▸ hO)
      · rw [e, hp] at z1
        exact ho.ntup vs (Option.some.inj z1)
    refine cut_iff.mpr ⟨keep b u ne z1, z2.imp (fun n m => ?_) id⟩
    rcases w'.new b m with q | q
    · exact n (List.mem_filter.mp q).1
    · rw [less_ne ne, z1] at q; cases q
  have nOc : a ∉ Oc := fun z => w.old a z h0
  refine ⟨O2, fun b z => w'.sub b (List.mem_filter.mpr ⟨w.sub b z, by simpa using fun q : b = a => nOc (q ▸ z)⟩), fun b z => ?_, w.old, w'.live, fun b u z => ?_, by simpa using w.len, fun j s x h3 h4 => ?_, fun j k q d1 d2 h3 h4 h5 h6 => ?_⟩
  · rcases w'.new b z with q | q
    · exact w.new b (List.mem_filter.mp q).1
    · by_cases e : b = a
      · exact .inr (e ▸ h0)
      · rw [less_ne e] at q
        refine .inr ?_
        cases z0 : H0 b with
        | none => rfl
        | some u => rw [w.ex b u z0] at q; cases q
  · have ne : b ≠ a := fun e => by rw [e, h0] at z; cases z
    exact keep b u ne (w.ex b u z)
  · by_cases ej : j = i
    · subst ej
      rw [List.getElem?_set_self hi] at h3
      cases h3
      rw [h2] at h4
      cases h4
      refine ⟨a, o', rfl, k2, h0, k4, ?_⟩
      cases o' <;> first | exact k5.elim | exact ⟨⟨k5.1, rfl⟩, k5.2⟩
    · rw [List.getElem?_set_ne (Ne.symm ej)] at h3
      have ok := w.ok j s x h3 h4
      cases s with
      | no => trivial
      | va d => obtain ⟨v, g1, g2⟩ := ok; exact ⟨v, g1, Rep.mono fr g2⟩
      | br d => obtain ⟨v, g1, g2⟩ := ok; exact ⟨v, g1, RepB.mono (fun _ _ z => z) fr g2⟩
      | bw d =>
        have := List.all_eq_true.mp hb _ (List.mem_of_getElem? h3)
        exact absurd this Bool.false_ne_true
      | ow d1 =>
        obtain ⟨q, o1, g1, g2, g3, g4, g5⟩ := ok
        subst g1
        have nq : q ≠ a := fun e => by
          subst e
          exact ej (w.nd j i q _ _ h3 h4 h1 h2)
        exact ⟨q, o1, rfl, w'.sub q (List.mem_filter.mpr ⟨g2, by simpa using nq⟩), g3, keep q o1 nq g4, RepH.mono fr g5⟩
  · have key : ∀ (k : Nat) (dd : D), (G.set i (Sl.ow (.slf a C ns es)))[k]? = some (Sl.ow dd) → ∃ dd', G[k]? = some (Sl.ow dd') := fun k dd h => by
      by_cases ek : k = i
      · subst ek
        exact ⟨_, h1⟩
      · rw [List.getElem?_set_ne (Ne.symm ek)] at h
        exact ⟨dd, h⟩
    obtain ⟨_, e⟩ := key j d1 h3
    obtain ⟨_, f⟩ := key k d2 h5
    exact w.nd j k q _ _ e h4 f h6
/-- super().__init__(..), self in slot i, `__class__` in slot j -/
theorem sa_super {body : List Stmt} {p0 p1 p2 p3 p4 : Pos} {f cda cc C DD f2 a : Addr} {fd fd2 : FuncData} {sf : Str} {k : Nat} {e : Expr} {es : List Expr} {pl : Sem Bool} {ps : List Str} {P2 : Pm} {ss : List Sl} {ds es2 : List D} {ns : List Str} (i j : Nat)
    (T : SupAt X.prog X.K X.mg f cda cc DD fd sf) (S : SupI X.K C DD f2) (F2 : FnOk X.prog X.w X.K X.mg X.base (L2N.CX X.prog X.w) k f2 fd2 ps (mkSpI X.K C P2)) (hrm : Room k X.A) (hb : L2.Binds X.K fd2 ps [])
    (hi : Γ[i]? = some (.ow (.slf a C [] []))) (hj : Γ[j]? = some (.va (.opq (.ref DD)))) (hst : stab Γ = true) (ha : Ea X H0 Oc Γ (e :: es) ss) (hva : vaD ss = some ds) (hp : P2 (ds.map .va) (.ret (.ow (.obj C ns es2))))
    (hr : SdsA X W H0 Oc (.func body X.env) (Γ.set i (.ow (.slf a C ns es2))) rest out)
    (hNi : X.N[i]? = some sf) (hNj : X.N[j]? = some ("__class__" : Str)) (hfu : X.env.func = some f := by rfl) (hco : X.env.code = .ref cda := by rfl) (hks : X.env.kindOf "super" = some .globalImplicit := by rfl) (hkc : X.env.kindOf "__class__" = some .free := by rfl) (hka : X.env.kindOf sf = some .local := by rfl)
    (hin : interactive X.env = false := by rfl) (hs : swapsWith (.Call (.Attribute (.Call (.Name "super" p0) [] [] p1) "__init__" p2) (e :: es) [] p3) none p4.line X.env = pure false := by rfl)
    (he : starEach (e :: es) X.env = (false, eval e X.env) :: starEach es X.env := by rfl) (hpl : (backTo p3 (starEach es X.env)).any (·.1) = false := by rfl)
    (hev : eval (.Call (.Attribute (.Call (.Name "super" p0) [] [] p1) "__init__" p2) (e :: es) [] p3) X.env = (do
      let ov ← attributeBase (.Call (.Name "super" p0) [] [] p1) "__init__" X.env (eval (.Call (.Name "super" p0) [] [] p1) X.env)
      standAt p2.atName
      let (f, first) ← holding [ov] (getMethod ov "__init__" pl)
      callWith p3 f first (backTo p3 (starEach (e :: es) X.env)) []) := by rfl) :
    SdsA X W H0 Oc (.func body X.env) Γ (.Expr (.Call (.Attribute (.Call (.Name "super" p0) [] [] p1) "__init__" p2) (e :: es) [] p3) p4 :: rest) out := fun σ H D w kk => by
  refine wpSA.of (psa_superI (i := i) (j := j) T S F2 hrm hb passLN hfu hco hks hkc hka hNi hNj pa_wp psa_wp hin hs he hpl hev) ?_
  obtain ⟨O, w0⟩ := id w
  obtain ⟨x, hx, pa, oo, rfl, g2, g3, g4, g5⟩ := slot_of (Δ := []) (τ := []) rfl w0 hi
  obtain ⟨y, hy, vy, rfl, ry⟩ := slot_of (Δ := []) (τ := []) rfl w0 hj
  obtain rfl : vy = .ref DD := ry
  cases oo <;> first | exact g5.elim | skip
  rename_i C' dx fs
  obtain ⟨⟨rfl, rfl⟩, g6⟩ := g5
  refine ⟨a, dx, fs, hy, hx, g4, ?_⟩
  refine ha [] [] σ H _ rfl w fun vs O1 H1 w1 ok => ?_
  have hss := vaD_at hva
  subst hss
  have rr := args_va ok
  have w1' : WfO X.K H0 Oc O1 Γ σ H1 := w1
  refine ⟨less H1 a, O1.filter (· ≠ a), ds.map .va, _, .ref a, vs, hp, rfl, ⟨O1, w1'.lend hi hx rr⟩, fun H2 w2 => ?_⟩
  exact hr σ H2 D (w1'.back hst hi hx w2) kk
end
section
variable {K : PySem.W.Frag} {H0 H : Hp} {O Oc : List Addr} {G : List Sl} {S : List (Option V)}
theorem WfO.snoc {s : Sl} {x : Option V} (w : WfO K H0 Oc O G S H) (h : SlOk K H0 O H s x) (hs : ∀ d, s ≠ .ow d) : WfO K H0 Oc O (G ++ [s]) (S ++ [x]) H := by
  have key : ∀ i s', (G ++ [s])[i]? = some s' → (G[i]? = some s' ∧ i < G.length) ∨ (i = G.length ∧ s' = s) := fun i s' h => by
    by_cases hi : i < G.length
    · rw [List.getElem?_append_left hi] at h
      exact .inl ⟨h, hi⟩
    · rw [List.getElem?_append_right (by omega)] at h
      cases e : i - G.length with
      | zero =>
        rw [e] at h
        cases h
        exact .inr ⟨by omega, rfl⟩
      | succ n => rw [e] at h; cases h
  refine ⟨w.sub, w.new, w.old, w.live, w.ex, by simp [w.len], fun i s' y h1 h2 => ?_, fun i j p d d' h1 h2 h3 h4 => ?_⟩
  · rcases key i s' h1 with ⟨e, hi⟩ | ⟨e, e2⟩
    · rw [List.getElem?_append_left (by rw [w.len]; exact hi)] at h2
      exact w.ok i s' y e h2
    · subst e2
      rw [e, ← w.len, List.getElem?_append_right (by omega), Nat.sub_self] at h2
      cases h2
      exact h
  · rcases key i _ h1 with ⟨e, hi⟩ | ⟨_, e⟩
    · rcases key j _ h3 with ⟨f, hj⟩ | ⟨_, f⟩
      · rw [List.getElem?_append_left (by rw [w.len]; exact hi)] at h2
        rw [List.getElem?_append_left (by rw [w.len]; exact hj)] at h4
        exact w.nd i j p d d' e h2 f h4
      · exact absurd f.symm (hs d')
    · exact absurd e.symm (hs d)
end
section
variable {Pr : Program} {w : World} {K : PySem.W.Frag} {mg : Str → Option Value} {base : Heap}
/-- an __init__ that calls super().__init__ -/
theorem initS_sds {fI cda cc C DD : Addr} {ar : Arguments} {bd : List Stmt} {sc : Scope} {qual : Str} {dV kV doc pm ct oc : Value} {an od : Option Addr} {osl : Array (Option Value)} {N ps : List Str} {k : Nat} {P : Pm}
    (lk : K.lookup fI = some ⟨oc, od, .func (PySem.W.fnX "__init__" qual ar bd sc [("__class__", cc)] dV kV doc pm an (.ref cda) ct), osl⟩) (hcd : PySem.W.codeIn K (.ref cda) qual = true)
    (S : NScope N ps ["__class__"] sc) (hcell : ∃ cl cld csl, K.lookup cc = some ⟨cl, cld, .cell (some (.ref DD)), csl⟩) (hlen : ∀ Γ o, P Γ o → Γ.length + 1 = ps.length)
    (hb : ∀ (A : Around) (outer : List Env) (s : Shared) (H : Hp) (E : XK), Room k (A.deeper (envF ⟨"__init__", qual, ar, bd, sc, [("__class__", cc)], cda⟩ fI s.heap.objs.size)) → ∀ (H0 : Hp) (Oc : List Addr) (Γ : List Sl) (o : Out) (a : Addr), P Γ o →
      ∃ o', SdsA (ncx (L2N.CX Pr w) Pr w K mg base N ⟨"__init__", qual, ar, bd, sc, [("__class__", cc)], cda⟩ fI A outer s H E) (wx E) H0 Oc (.func bd (envF ⟨"__init__", qual, ar, bd, sc, [("__class__", cc)], cda⟩ fI s.heap.objs.size))
        (.ow (.slf a C [] []) :: (Γ ++ (.va (.opq (.ref DD)) :: List.replicate (N.length - ps.length - 1) .no))) bd o' ∧ FinI a C o' o) :
    FnOk Pr w K mg base (L2N.CX Pr w) (k + 1) fI (PySem.W.fnX "__init__" qual ar bd sc [("__class__", cc)] dV kV doc pm an (.ref cda) ct) ps (mkSpI K C P) := by
  obtain ⟨cl, cld, csl, hcell⟩ := hcell
  have len : ∀ vs H Q E, mkSpI K C P vs H Q E → vs.length = ps.length := fun vs H Q E ⟨H0, Oc, Γ, o, self, us, hp, e, ⟨O, w⟩, _⟩ => by
    have := w.len
    rw [← hlen Γ o hp, ← List.length_map (f := some) (as := vs), this]
    rfl
  refine fn_ofA (k := k) (F := ⟨"__init__", qual, ar, bd, sc, [("__class__", cc)], cda⟩) (ws := [some (.ref DD)]) lk hcd S (fun s A outer H e0 => cells_class hcell e0) len fun A outer s H vs Q E hr hsp => ?_
  have hl := len vs H Q E hsp
  obtain ⟨H0, Oc, Γ, o, self, us, hp, rfl, ⟨O, w0⟩, sat⟩ := hsp
  obtain ⟨aa, oo, e, h2, h3, h4, h5⟩ := w0.head
  cases e
  obtain ⟨o', hS, fin⟩ := hb A outer s H E hr H0 Oc Γ o aa hp
  refine ⟨wpSA _ _ _, psa_wp, hS _ H _ ⟨O, ?_⟩ ?_⟩
  · have z := (w0.slf.snoc (s := .va (.opq (.ref DD))) (x := some (.ref DD)) ⟨.ref DD, rfl, rfl⟩ fun _ z => nomatch z).pad (N.length - ps.length - 1)
    rw [List.append_assoc, List.append_assoc] at z
    unfold startF
    rw [hl]
    exact z
  · match o', fin with
    | .nx Γ', fin =>
      obtain ⟨ns, ds, e1, rfl⟩ := fin
      exact fun σ H' ⟨O', w'⟩ => sat H' (w'.at0 e1)
    | .exc C ns ds Γe, fin =>
      obtain ⟨Γe', rfl⟩ := fin
      intro d σ H' xw
      refine sat d H' ?_
      cases Γe with
      | none => exact xw
      | some Γ2 => exact Wf.only (show Wf K H0 Oc (.va (.xd ns ds) :: ([] ++ Γ2)) (some (.ref d) :: ([] ++ σ)) H' from xw)
end
end Y

/-! # sorted(t), t a tuple of ints -/
namespace Srt2
open PySem PySem.Spec PyProof.Rows
section
variable {prog : Program} {w : World} {A : Around} {E : Value → Shared → Prop} {s : Shared}
theorem gather {t : Addr} {its : List Value} {Q : List Value → Shared → Prop} (ht : s.heap.IsTuple t its.toArray) (few : its.length ≤ sizeLine)
    (q : Q its { s with heap := (s.heap.push (seqObj "list" #[] 0)).update s.heap.objs.size (Obj.mapSeq (· ++ its.toArray)) }) : wpAny (model prog w) A (collect (.ref t)) Q E s := by
  obtain ⟨ob, at_, cls, ep, dat⟩ := id ht
  have at2 : (s.heap.push (seqObj "list" #[] 0)).get? t = some ob := Heap.get?_push_of_some _ at_
  have fresh : (s.heap.push (seqObj "list" #[] 0)).get? s.heap.objs.size = some (seqObj "list" #[] 0) := Heap.get?_push_size _ rfl
  unfold collect
  apply wpAny_bind
  apply wpAny_runValue
  apply codeAny_builtin entry_proto_collect'
  show wpAny _ _ (do again (.builtin "list.__iadd__" ⟨[← newList [], .ref t], []⟩)) _ _ s
  refine wpAny_bind (wpAny_newList ?_)
  apply wpAny_pure
  refine ⟨Code.quiet_builtin _ (by decide +kernel), codeAny_builtin entry_list_iadd' ?_⟩
  show wpAny _ _ (Builtin.List.listExtendWith (.ref s.heap.objs.size) (.ref t) (.ref s.heap.objs.size)) _ _ { s with heap := s.heap.push (seqObj "list" #[] 0) }
  unfold Builtin.List.listExtendWith
  apply wpAny_bind
  refine wpAny_typeOf (T := "tuple") ⟨ob, at2, cls⟩ ?_
  rw [if_pos (by rw [show (Value.type "tuple" == Value.type "list") = false by rfl, show (Value.type "tuple" == Value.type "tuple") = true by rfl]; simp)]
  apply wpAny_bind
  refine listItems_at at2 dat ?_
  apply wpAny_bind
  refine listItems_at (xs := #[]) (n := 0) fresh rfl ?_
  rw [if_neg (by simp)]
  apply wpAny_bind
  refine listUpdate_at (xs := #[]) (n := 0) fresh rfl ?_ (Nat.zero_le _) ?_
  · apply wpAny_pure
    show wpAny (model prog w) A (do
        let o ← load s.heap.objs.size
        match o.data with
        | .seq ys _ => pure ys.toList
        | _ => unsupported "internal:collect") Q E { s with heap := (s.heap.push (seqObj "list" #[] 0)).update s.heap.objs.size (Obj.mapSeq (· ++ its.toArray)) }
    apply wpAny_bind
    refine wpAny_load (get?_update_seq fresh _) ?_
    show wpAny _ _ (pure ((#[] : Array Value) ++ its.toArray).toList) Q E _
    have e : ((#[] : Array Value) ++ its.toArray).toList = its := by simp
    rw [e]
    exact wpAny_pure q
  · show (#[] ++ its.toArray).size ≤ sizeLine + 1
    have e : (#[] ++ its.toArray).size = its.length := by simp
    rw [e]
    exact Nat.le_succ_of_le few
theorem sorted_t {t : Addr} {its : List Value} {lt : Value → Value → Bool} {Q : Value → Shared → Prop} (O : SrtO.Swo lt) (ht : s.heap.IsTuple t its.toArray) (few : its.length ≤ sizeLine)
    (can : 2 ≤ its.length → ∀ (g : Heap) (b : Addr), g.get? b = some (seqObj "list" its.toArray 0) → (∀ c o, s.heap.get? c = some o → c ≠ b ∧ g.get? c = some o) → SrtO.SortableO prog w A.in1.in1 { s with heap := g } b its lt)
    (q : ∀ out : List Value, SrtO.Srtd lt out → SrtO.Stb lt out its → Q (.ref (s.heap.objs.size + 1)) { s with heap := sortedAll s.heap its out.toArray }) :
    wpAny (model prog w) A (call (.builtin "sorted") [.ref t]) Q E s := by
  refine Calls.call_function_entry kind_sorted plain_sorted entry_sorted (args_sorted1 _) ?_
  unfold Builtin.«sorted»
  apply wpAny_bind (m := checkCount "sorted" 1 1 _)
  apply wpAny_pure
  apply wpAny_bind
  refine gather ht few ?_
  apply wpAny_bind
  refine wpAny_newList ?_ few
  let g1 := (s.heap.push (seqObj "list" #[] 0)).update s.heap.objs.size (Obj.mapSeq (· ++ its.toArray))
  have z1 : g1.objs.size = s.heap.objs.size + 1 := (Heap.size_update ..).trans (size_push' ..)
  have z2 : (g1.push (seqObj "list" its.toArray 0)).get? (s.heap.objs.size + 1) = some (seqObj "list" its.toArray 0) := z1 ▸ Heap.get?_push_size _ rfl
  have old : ∀ c o, s.heap.get? c = some o → c ≠ s.heap.objs.size + 1 ∧ (g1.push (seqObj "list" its.toArray 0)).get? c = some o := fun c o e => by
    have lt : c < s.heap.objs.size := Heap.lt_size e
    refine ⟨Nat.ne_of_lt (Nat.lt_succ_of_lt lt), Heap.get?_push_of_some _ ((Heap.get?_update_ne _ _ _ _ (Nat.ne_of_lt lt)).trans (Heap.get?_push_of_some _ e))⟩
  show wpAny _ _ _ _ _ { s with heap := g1.push (seqObj "list" its.toArray 0) }
  rw [show ((s.heap.push (seqObj "list" #[] 0)).update s.heap.objs.size (Obj.mapSeq (· ++ its.toArray))).objs.size = s.heap.objs.size + 1 from z1]
  apply wpAny_bind
  apply wpAny_holding
  refine wpAny_call_entry slot_list_sort ⟨_, z2, rfl⟩ entry_list_sort ?_ (args_list_sort _)
  refine SrtO.list_sort_ord O z2 few (fun two => can two _ _ z2 old) fun out a b => ⟨_, rfl, ?_⟩
  exact wpAny_pure ⟨_, rfl, q out a b⟩
end
open L2
def rSortedTI (K : PySem.W.Frag) : List V → Hp → VK → Prop := fun vs H Q => ∃ (a : Addr) (ns : List Int), vs = [V.ref a] ∧ SqT K H a (ns.map V.int) ∧
  ∀ (ms : List Int) (p : Addr), ms.Perm ns → ms.Pairwise (· ≤ ·) → H p = none → Q (.ref p) (upd H p (.lst (ms.map V.int)))
theorem cr_sortedTI {X : Cx} : CallR X (.builtin "sorted") (rSortedTI X.K) := by
  intro pins s σ H vs us Q I r h
  obtain ⟨a, ns, rfl, hs, q⟩ := h
  obtain ⟨its, rv, ht, hz⟩ := I.tuple hs
  rw [Vals.ref1 r]
  have hi := rv.ints
  refine sorted_t SrtO.swo_int ht (by rw [← rv.length]; exact hz) (fun h2 g b _ _ => SrtO.ints_sortable hi h2) fun out a1 a2 => ?_
  obtain ⟨k1, k2, k3⟩ := SrtO.ints_out hi a1 a2
  obtain ⟨ep, at_⟩ := sortedAll_at s.heap its out.toArray
  have few : ((out.map SrtO.iv).map V.int).length ≤ sizeLine := by
    rw [List.length_map, k2.length_eq, ← List.length_map (f := V.int)]
    exact hz
  exact ⟨.ref _, upd H (s.heap.objs.size + 1) (.lst ((out.map SrtO.iv).map V.int)), I.laid (t' := s.toks) (fun _ _ => sortedAll_old) (Nat.le_succ _) ⟨few, out, ep, vals_of_ints k1, at_⟩, rfl, q _ _ k2 k3 (I.hok.fresh (Nat.le_succ _))⟩
end Srt2

/-! # enumerate(t), t a tuple -/
namespace EnT
open PySem PySem.Spec PyProof.Rows
abbrev tIt (t : Addr) : Obj := { cls := .type "tuple_iterator", data := .fields #[.ref t, .int 0 0] }
abbrev eOb (a : Addr) : Obj := { cls := .type "enumerate", data := .fields #[.none, .bool false, .ref a, rawInt 0, .none, .none] }
theorem new_meets (t : Addr) (its : Array Value) (n : Nat) (dct : Option Addr) (sl : Array (Option Value)) :
    Meets (Builtin.«enumerate.__new__» ⟨[.type "enumerate", .ref t], []⟩) (fun _ R s => s.heap.get? t = some { cls := .type "tuple", dict := dct, data := .seq its n, slots := sl } ∧
      R (.ok (.ret (.ref (s.heap.push (tIt t)).objs.size))) { s with heap := (s.heap.push (tIt t)).push (eOb s.heap.objs.size) }) :=
  .of_wp fun prog w A R s h => by
    obtain ⟨hp, g, d, tk, os⟩ := s
    obtain ⟨at_, h⟩ := h
    have sub := sub_enumerate
    have tup : Heap.IsTuple (Shared.heap ⟨hp, g, d, tk, os⟩) t its := ⟨_, at_, rfl, n, rfl⟩
    wp_walk using wpAny_loadPart' at_
    refine wpAny_stack_any fun zz => wpAny_pure ?_
    split
    · rename_i k0 _ _ _ _ _
      cases (k0 == Value.type "enumerate")
      · wp_walk using wpAny_loadPart' at_, wpAny_pyIter_tuple tup
        exact ⟨_, rfl, h⟩
      · wp_walk using wpAny_loadPart' at_, wpAny_pyIter_tuple tup
        exact ⟨_, rfl, h⟩
    · wp_walk using wpAny_loadPart' at_, wpAny_pyIter_tuple tup
      exact ⟨_, rfl, h⟩
section
variable {prog : Program} {w : World} {A : Around} {E : Value → Shared → Prop} {s : Shared}
theorem call_it {t : Addr} {its : Array Value} {Q : Value → Shared → Prop} (ht : s.heap.IsTuple t its)
    (q : ∀ g, IsEnum g (s.heap.objs.size + 1) s.heap.objs.size 0 .none → g.IsTupleIter s.heap.objs.size t 0 → (∀ b o, s.heap.get? b = some o → g.get? b = some o) → Q (.ref (s.heap.objs.size + 1)) { s with heap := g }) :
    wpAny (model prog w) A (call (.type "enumerate") [.ref t]) Q E s := by
  obtain ⟨⟨cl, dct, dt, sl⟩, at_, hc, n, hd⟩ := ht
  cases (show cl = .type "tuple" from hc)
  cases (show dt = .seq its n from hd)
  refine callType_new F.called_enumerate (by decide) (F.typeCall_enumerate_1 _) (F.newCall_enumerate_1 _) (fun obj => F.args_object_init_2 obj _) F.entry_enumerate_new (new_meets t its n dct sl) ⟨at_, ?_⟩
  have z : (s.heap.push (tIt t)).objs.size = s.heap.objs.size + 1 := Heap.size_push ..
  have en : IsEnum ((s.heap.push (tIt t)).push (eOb s.heap.objs.size)) (s.heap.objs.size + 1) s.heap.objs.size 0 .none := by
    have y := Heap.get?_push_size (s.heap.push (tIt t)) (o := eOb s.heap.objs.size) rfl
    rw [z] at y
    exact y
  show _ ∧ _
  rw [z]
  exact ⟨⟨_, en, rfl⟩, q _ en ⟨_, Heap.get?_push_of_some _ (Heap.get?_push_size _ rfl), rfl, rfl⟩ fun b o e => Heap.get?_push_of_some _ (Heap.get?_push_of_some _ e)⟩
end
open L2
/-- the tuple at a, each item in a new pair -/
def Iet (K : PySem.W.Frag) (a : Addr) : It :=
  ⟨fun i H => ∃ (xs : List V) (x : V), SqT K H a xs ∧ xs[i]? = some x, fun i H v H' => ∃ T x, v = .ref T ∧ H T = none ∧ H' = upd H T (.tup [.int (i : Nat), x]) ∧ ∀ xs, SqT K H a xs → xs[i]? = some x, fun i H => ∃ xs : List V, SqT K H a xs ∧ xs.length ≤ i⟩
theorem turn {P : Program} {w : World} {K : PySem.W.Frag} {elts : List Expr} {kk : Nat} {tpos : Pos} (a e it : Addr) :
    Turn P w K (.Tuple elts kk tpos) (Iet K a) [e, it] e (fun i h => (∃ old, IsEnum h e it ((i : Nat) : Int) old) ∧ h.IsTupleIter it a i ∧ e ≠ it) where
  mem := List.mem_cons_self
  obj := fun i h st b hb => by
    obtain ⟨⟨old, at_⟩, ⟨o, ho, _, hd⟩, _⟩ := st
    rcases List.mem_cons.mp hb with rfl | hb
    · exact ⟨_, at_, fun v q => nomatch q⟩
    · rw [List.mem_singleton.mp hb]
      exact ⟨o, ho, fun v q => by rw [hd] at q; cases q⟩
  keep := fun i h h' st k => ⟨⟨st.1.choose, k e List.mem_cons_self _ st.1.choose_spec⟩, st.2.1.at fun o q => k it (List.mem_cons_of_mem _ List.mem_cons_self) o q, st.2.2⟩
  item := by
    intro X hP hw hK hc i pins s σ H E I hf st hg
    subst hP hw hK
    obtain ⟨⟨old, at_⟩, hit, hne⟩ := st
    obtain ⟨xs, x, hq, hx⟩ := hg
    obtain ⟨its, rv, tp, hz⟩ := I.tuple hq
    obtain ⟨u, hu, ru⟩ := rv.get hx
    have le : e < s.heap.objs.size := Heap.lt_size at_
    have li : it < s.heap.objs.size := by obtain ⟨_, q, _⟩ := hit; exact Heap.lt_size q
    have nt : a ≠ it := fun z => by
      obtain ⟨o1, q1, c1, _⟩ := hit
      obtain ⟨o2, q2, c2, _⟩ := tp
      rw [z, q1] at q2
      cases q2
      rw [c1] at c2
      exact absurd c2 (by decide)
    have ne : e ≠ a := fun z => by
      obtain ⟨o2, q2, c2, _⟩ := tp
      have q1 : s.heap.get? e = _ := at_
      rw [← z, q1] at q2
      cases q2
      have c3 : Value.type "enumerate" = Value.type "tuple" := c2
      exact absurd c3 (by decide)
    have hi : i < its.toArray.size := by
      have := (List.getElem?_eq_some_iff.mp hu).1
      simpa using this
    refine wpAny_pyNext_enum_itemD (Draws.tuple (prog := X.prog) (w := X.w) (A := X.A.in1) (by simp [I.ok.hd hc]) it a nt its.toArray) at_ ⟨hit, tp⟩ hi hne (fun z => ?_) fun y g tk hy ho st2 hT _ hk => ?_
    · rcases List.mem_cons.mp z with z | z
      · exact hne z
      · exact ne (List.mem_singleton.mp z)
    have ey : y = u := by
      have h1 : its.toArray[i]? = some y := hy
      rw [List.getElem?_toArray, hu] at h1
      exact (Option.some.inj h1).symm
    subst ey
    refine ⟨_, rfl, wpAny_letOwnedTupleGo_enum (s := { s with heap := g, toks := tk + 1 }) ho fun g2 he' sb => ?_⟩
    have hT2 : g2.get? s.heap.objs.size = some { cls := .type "tuple", data := .seq #[.int i tk, y] } := (sb.2 _ (Nat.ne_of_gt le)).trans hT
    have new : ObjOk X.prog X.w (upd H s.heap.objs.size (.tup [.int (i : Nat), x])) g2 s.heap.objs.size (.tup [.int (i : Nat), x]) :=
      ⟨by show 2 ≤ sizeLine; decide, [.int i tk, y], .cons ⟨_, rfl⟩ (.cons ru .nil), ⟨_, hT2, rfl, _, rfl⟩⟩
    have I1 : Inv X pins σ (upd H s.heap.objs.size (.tup [.int (i : Nat), x])) { s with heap := g2, toks := tk + 1 } :=
      I.turnedNew (ch := [e, it]) (fun b ob hb q => (sb.2 b fun z => hb (by rw [z]; exact List.mem_cons_self)).trans (hk b ob (fun z => hb (by rw [z]; exact List.mem_cons_self)) (fun z => hb (by rw [z]; exact List.mem_cons_of_mem _ List.mem_cons_self)) q)) hf (Nat.le_refl _) new
    refine ⟨.ref s.heap.objs.size, _, I1, rfl, ⟨_, x, rfl, I.hok.fresh (Nat.le_refl _), rfl, fun ys hy => by rw [I.tuple_inj hy hq]; exact hx⟩, ⟨⟨y, ?_⟩, st2.1.at fun o q => (sb.2 it (Ne.symm hne)).trans q, hne⟩, fun b hb => ?_⟩
    · have e1 : ((i + 1 : Nat) : Int) = (i : Int) + 1 := rfl
      rw [e1]
      exact he'
    · have lb : b < s.heap.objs.size := by
        rcases List.mem_cons.mp hb with rfl | hb
        · exact le
        · rw [List.mem_singleton.mp hb]; exact li
      rw [upd_ne (Nat.ne_of_lt lb)]
      exact (hf b hb).1
  done := by
    intro X hP hw hK hc i pins s σ H E I hf st hg
    subst hP hw hK
    obtain ⟨⟨old, at_⟩, hit, hne⟩ := st
    obtain ⟨xs, hq, hx⟩ := hg
    obtain ⟨its, rv, tp, hz⟩ := I.tuple hq
    obtain ⟨f0, f1, f2, f3, f4, f5⟩ := hf it (List.mem_cons_of_mem _ List.mem_cons_self)
    have nt : a ≠ it := fun z => by
      obtain ⟨o1, q1, c1, _⟩ := hit
      obtain ⟨o2, q2, c2, _⟩ := tp
      rw [z, q1] at q2
      cases q2
      rw [c1] at c2
      exact absurd c2 (by decide)
    unfold pyNext
    have hT : s.TypeIs (.ref e) "enumerate" := ⟨_, at_, rfl⟩
    refine wpAny_bind (wpAny_attempt (wpAny_callSpecial?_slot (name := Str.ofString "__next__") hT F.slot_enumerate_next (wpAny_call_entry F.slot_enumerate_next hT F.entry_enumerate_next ?_ (F.args_enumerate_next_1 _))))
    show wpAny _ _ (field (.ref e) 2 >>= _) _ _ _
    refine wpAny_bind (wpAny_field at_ rfl (x := .ref it) rfl ?_)
    have none : its.toArray[i]? = Option.none := by
      rw [List.getElem?_toArray]
      exact List.getElem?_eq_none (by rw [← rv.length]; exact hx)
    refine wpAny_bind (wpAny_nextOf_tuple_end (I.ok.hd hc) hit tp none fun g x hg2 hx2 => ?_)
    obtain ⟨o, ho, hcl⟩ := hx2
    refine wpAny_bind (wpAny_isInstance (T := "StopIteration") (b := true) ⟨o, ho, hcl⟩ isSubtype_stop ?_)
    exact wpAny_pure ⟨rfl, I.turned (t' := s.toks) (fun b o hb q => hg2 b o hb q) f0 f1 f3 f4 f5⟩
  self := fun A i s Q E st h => let ⟨⟨_, at_⟩, _⟩ := st; wpAny_pyIter_enum at_ h
def iEnT (K : PySem.W.Frag) (ta : TA) : TI := fun σ H R => ta σ H fun vs H1 => ∃ a xs, vs = [.ref a] ∧ SqT K H1 a xs ∧ R (Iet K a) H1
theorem pi_enT {X : Cx} {e : Expr} {ta : TA} {p pos tpos : Pos} {elts : List Expr} {kk : Nat} (hg : Gl X "enumerate") (hm : X.mg "enumerate" = none) (ha : PA X [e] ta) (hs : starEach [e] X.env = [(false, eval e X.env)]) :
    PI X (.Tuple elts kk tpos) (.Call (.Name "enumerate" p) [e] [] pos) (iEnT X.K ta) := by
  refine ⟨fun pins s σ H R I h => Call_ (ld_blt I hg hm boot_enumerate (PyProof.Rows.callWith_type1 (thn (ha.run pos pins s σ H _ I h) fun us s1 ⟨vs, H1, I1, r1, q1⟩ => ?_) hs rfl))⟩
  obtain ⟨a, xs, rfl, hq, q⟩ := q1
  rw [Vals.ref1 r1]
  obtain ⟨its, rv, tp, hz⟩ := I1.tuple hq
  refine call_it tp fun g he hit hk => wpAny_pyIter_enum he ?_
  refine ⟨s1.heap.objs.size + 1, [s1.heap.objs.size + 1, s1.heap.objs.size], _, _, H1, rfl, I1.kept (t' := s1.toks) hk, turn a (s1.heap.objs.size + 1) s1.heap.objs.size, ⟨⟨.none, he⟩, hit, Nat.succ_ne_self _⟩, fun b hb => ?_, q⟩
  have le : s1.heap.objs.size ≤ b := by
    rcases List.mem_cons.mp hb with rfl | hb
    · exact Nat.le_succ _
    · rw [List.mem_singleton.mp hb]; exact Nat.le_refl _
  exact I1.fpOk le (I1.hok.fresh le)
end EnT

namespace Y
open PySem PySem.Spec PyProof.Rows L2
/-! ## order -/
def lexLe : List Int → List Int → Bool
  | [], _ => true
  | _ :: _, [] => false
  | a :: r, b :: q => decide (a < b) || (decide (a = b) && lexLe r q)
theorem lex_total : ∀ a b : List Int, (lexLe a b || lexLe b a) = true
  | [], _ => by simp [lexLe]
  | _ :: _, [] => by simp [lexLe]
  | a :: r, b :: q => by
    have ih := lex_total r q
    simp only [lexLe, Bool.or_eq_true, decide_eq_true_eq, Bool.and_eq_true] at ih ⊢
    rcases Int.lt_trichotomy a b with h | h | h
    · exact .inl (.inl h)
    · rcases ih with i | i
      · exact .inl (.inr ⟨h, i⟩)
      · exact .inr (.inr ⟨h.symm, i⟩)
    · exact .inr (.inl h)
theorem lex_trans : ∀ a b c : List Int, lexLe a b = true → lexLe b c = true → lexLe a c = true
  | [], _, _, _, _ => by simp [lexLe]
  | _ :: _, [], _, h, _ => by simp [lexLe] at h
  | _ :: _, _ :: _, [], _, h => by simp [lexLe] at h
  | a :: r, b :: q, c :: t, h1, h2 => by
    have ih := lex_trans r q t
    simp only [lexLe, Bool.or_eq_true, decide_eq_true_eq, Bool.and_eq_true] at h1 h2 ⊢
    rcases h1 with h1 | ⟨e1, h1⟩
    · rcases h2 with h2 | ⟨e2, h2⟩
      · exact .inl (by omega)
      · exact .inl (by omega)
    · rcases h2 with h2 | ⟨e2, h2⟩
      · exact .inl (by omega)
      · exact .inr ⟨by omega, ih h1 h2⟩
theorem lex_anti : ∀ a b : List Int, lexLe a b = true → lexLe b a = true → a = b
  | [], [], _, _ => rfl
  | [], _ :: _, _, h => by simp [lexLe] at h
  | _ :: _, [], h, _ => by simp [lexLe] at h
  | a :: r, b :: q, h1, h2 => by
    simp only [lexLe, Bool.or_eq_true, decide_eq_true_eq, Bool.and_eq_true] at h1 h2
    rcases h1 with h1 | ⟨e1, h1⟩
    · rcases h2 with h2 | ⟨e2, h2⟩ <;> omega
    · rcases h2 with h2 | ⟨e2, h2⟩
      · omega
      · rw [e1, lex_anti r q h1 h2]
theorem lex_code {B : Int} : ∀ {a b : List Int}, a.length = b.length → TS.Bd B a → TS.Bd B b → TS.code B a ≤ TS.code B b → lexLe a b = true
  | [], _, _, _, _, _ => by simp [lexLe]
  | _ :: _, [], h, _, _, _ => by simp at h
  | a :: r, b :: q, hl, h1, h2, hc => by
    have hl' : r.length = q.length := by simpa using hl
    simp only [lexLe, Bool.or_eq_true, decide_eq_true_eq, Bool.and_eq_true]
    rcases Int.lt_trichotomy a b with h | h | h
    · exact .inl h
    · subst h
      refine .inr ⟨rfl, lex_code hl' h1.tail h2.tail ?_⟩
      have := (TS.code_same (d := a) hl'.symm (B := B)).mpr
      rcases Int.lt_or_le (TS.code B q) (TS.code B r) with z | z
      · have := this z
        omega
      · exact z
    · have := TS.code_lt hl'.symm h2.tail h1.tail h
      omega
/-- sorted(..) of tuples of ints, of ints -/
def sortL (L : List (List Int)) : List (List Int) := L.mergeSort lexLe
def sortI (ns : List Int) : List Int := ns.mergeSort (fun x y => decide (x ≤ y))
theorem sortL_perm (L : List (List Int)) : (sortL L).Perm L := List.mergeSort_perm _ _
theorem sortL_pair (L : List (List Int)) : (sortL L).Pairwise (fun a b => lexLe a b = true) := List.pairwise_mergeSort lex_trans lex_total L
theorem sortL_uniq {M L : List (List Int)} (h : M.Perm L) (hp : M.Pairwise (fun a b => lexLe a b = true)) : M = sortL L :=
  List.Perm.eq_of_pairwise (fun a b _ _ h1 h2 => lex_anti a b h1 h2) hp (sortL_pair L) (h.trans (sortL_perm L).symm)
/-! ## permuted values -/
theorem Reps.perm {K : PySem.W.Frag} {H : Hp} {α : Type} {f : α → D} {us vs : List V} (p : us.Perm vs) : ∀ {L : List α}, Reps K H (L.map f) vs → ∃ M : List α, M.Perm L ∧ Reps K H (M.map f) us := by
  induction p with
  | nil =>
    intro L h
    exact ⟨L, .refl _, h⟩
  | cons x p ih =>
    intro L h
    match L, h with
    | [], h => cases (show _ = [] from h)
    | a :: L, ⟨v, ws, e, h1, h2⟩ =>
      cases e
      obtain ⟨M, m1, m2⟩ := ih h2
      exact ⟨a :: M, m1.cons a, x, _, rfl, h1, m2⟩
  | swap x y l =>
    intro L h
    match L, h with
    | [], h => cases (show _ = [] from h)
    | [a], ⟨v, ws, e, h1, h2⟩ =>
      cases e
      cases (show _ = [] from h2)
    | a :: b :: L, ⟨v, ws, e, h1, v', ws', e', h2, h3⟩ =>
      cases e
      cases e'
      exact ⟨b :: a :: L, .swap a b L, y, _, rfl, h2, x, _, rfl, h1, h3⟩
  | trans p q ih1 ih2 =>
    intro L h
    obtain ⟨M, m1, m2⟩ := ih2 h
    obtain ⟨N, n1, n2⟩ := ih1 m2
    exact ⟨N, n1.trans m1, n2⟩
theorem Reps.bls {K : PySem.W.Frag} {H : Hp} : ∀ {bs : List Bool} {vs : List V}, Reps K H (bs.map .bl) vs → vs = bs.map V.bl
  | [], _, h => h
  | _ :: _, _, ⟨_, _, h1, h2, h3⟩ => by rw [h1, h2, Reps.bls h3] <;> rfl
/-- a tuple of ints -/
def encT (ns : List Int) : D := .tup (ns.map .int)
theorem rep_tup {K : PySem.W.Frag} {H : Hp} {ns : List Int} {v : V} (h : Rep K H (encT ns) v) : ∃ t, v = .ref t ∧ H t = some (.tup (ns.map V.int)) := by
  obtain ⟨t, vs, e, h1, h2⟩ := h
  rw [Reps.ints h2] at h1
  exact ⟨t, e, h1⟩
theorem map_int_inj : ∀ {a b : List Int}, a.map V.int = b.map V.int → a = b
  | [], [], _ => rfl
  | [], _ :: _, h => by simp at h
  | _ :: _, [], h => by simp at h
  | x :: a, y :: b, h => by
    simp only [List.map_cons, List.cons.injEq] at h
    obtain ⟨h1, h2⟩ := h
    cases h1
    rw [map_int_inj h2]
section
variable {X : Cx} {W : WX} {H0 : Hp} {Oc : List Addr} {Γ : List Sl} {a b : Expr} {d : D} {ds : List D} {i j : Int} {pos p : Pos} {bs : List Bool} {ns : List Int}
theorem e_all (hm : X.mg "all" = none) (hc : X.calm = true) (ha : Ev X H0 Oc Γ a (.bw (.lst (bs.map .bl)))) (hg : Gl X "all" := by rfl) (he : starEach [a] X.env = (false, eval a X.env) :: starEach [] X.env := by rfl) (hpl : (backTo pos (starEach [] X.env)).any (·.1) = false := by rfl) :
    Ev X H0 Oc Γ (.Call (.Name "all" p) [a] [] pos) (.va (.bl (bs.all id))) := ev_b1 (cr_all hc) ha hm (by decide +kernel) hg (fun G S H v Q W q => by
      obtain ⟨⟨O, h⟩, O', W'⟩ := W.popB
      obtain ⟨t, vs, rfl, h1, h2⟩ := h
      have e : vs = bs.map V.bl := Reps.bls h2
      subst e
      exact ⟨t, bs, rfl, .of h1, q _ H ⟨O', W'.flat (d := .bl (bs.all id)) (H' := H) rfl rfl⟩⟩) (by decide) (by decide) he hpl
theorem e_any (hm : X.mg "any" = none) (hc : X.calm = true) (ha : Ev X H0 Oc Γ a (.bw (.lst (bs.map .bl)))) (hg : Gl X "any" := by rfl) (he : starEach [a] X.env = (false, eval a X.env) :: starEach [] X.env := by rfl) (hpl : (backTo pos (starEach [] X.env)).any (·.1) = false := by rfl) :
    Ev X H0 Oc Γ (.Call (.Name "any" p) [a] [] pos) (.va (.bl (bs.any id))) := ev_b1 (cr_any hc) ha hm (by decide +kernel) hg (fun G S H v Q W q => by
      obtain ⟨⟨O, h⟩, O', W'⟩ := W.popB
      obtain ⟨t, vs, rfl, h1, h2⟩ := h
      have e : vs = bs.map V.bl := Reps.bls h2
      subst e
      exact ⟨t, bs, rfl, .of h1, q _ H ⟨O', W'.flat (d := .bl (bs.any id)) (H' := H) rfl rfl⟩⟩) (by decide) (by decide) he hpl
theorem e_max (hm : X.mg "max" = none) (hc : X.calm = true) (ha : Ev X H0 Oc Γ a (.va (.int i))) (hb : Ev X H0 Oc Γ b (.va (.int j))) (hg : Gl X "max" := by rfl) (he : starEach [a, b] X.env = (false, eval a X.env) :: starEach [b] X.env := by rfl) (he2 : starEach [b] X.env = (false, eval b X.env) :: starEach [] X.env := by rfl) (hpl : (backTo pos (starEach [b] X.env)).any (·.1) = false := by rfl) :
    Ev X H0 Oc Γ (.Call (.Name "max" p) [a, b] [] pos) (.va (.int (max i j))) := fun Δ τ σ H Q hl w kk =>
  wpE.of (pe_callB (call_max2 hc) hg hm (by decide +kernel) (pa_cons pe_wp (pa_cons pe_wp pa_nil he2) he) (by decide) (by decide) he hpl) (ha Δ τ σ H _ hl w fun v H1 w1 =>
    hb (.va (.int i) :: Δ) (some v :: τ) σ H1 _ (by simp [hl]) w1 fun z H2 ⟨O, w2⟩ => by
      obtain ⟨z', e1, r1⟩ := w2.head
      cases e1
      obtain ⟨v', e2, r2⟩ := w2.pop.head
      cases e2
      refine ⟨i, j, by rw [show v = _ from r2, show z = _ from r1], kk _ H2 ⟨O, w2.pop.pop.flat (H' := H2) rfl ?_⟩⟩
      show V.int _ = V.int _
      congr 1
      split <;> omega)
theorem e_min (hm : X.mg "min" = none) (hc : X.calm = true) (ha : Ev X H0 Oc Γ a (.va (.int i))) (hb : Ev X H0 Oc Γ b (.va (.int j))) (hg : Gl X "min" := by rfl) (he : starEach [a, b] X.env = (false, eval a X.env) :: starEach [b] X.env := by rfl) (he2 : starEach [b] X.env = (false, eval b X.env) :: starEach [] X.env := by rfl) (hpl : (backTo pos (starEach [b] X.env)).any (·.1) = false := by rfl) :
    Ev X H0 Oc Γ (.Call (.Name "min" p) [a, b] [] pos) (.va (.int (min i j))) := fun Δ τ σ H Q hl w kk =>
  wpE.of (pe_callB (call_min2 hc) hg hm (by decide +kernel) (pa_cons pe_wp (pa_cons pe_wp pa_nil he2) he) (by decide) (by decide) he hpl) (ha Δ τ σ H _ hl w fun v H1 w1 =>
    hb (.va (.int i) :: Δ) (some v :: τ) σ H1 _ (by simp [hl]) w1 fun z H2 ⟨O, w2⟩ => by
      obtain ⟨z', e1, r1⟩ := w2.head
      cases e1
      obtain ⟨v', e2, r2⟩ := w2.pop.head
      cases e2
      refine ⟨i, j, by rw [show v = _ from r2, show z = _ from r1], kk _ H2 ⟨O, w2.pop.pop.flat (H' := H2) rfl ?_⟩⟩
      show V.int _ = V.int _
      congr 1
      split <;> omega)
/-- sorted(list of ints) -/
theorem e_sortI (hm : X.mg "sorted" = none) (ha : Ev X H0 Oc Γ a (.bw (.lst (ns.map .int)))) (hg : Gl X "sorted" := by rfl) (he : starEach [a] X.env = (false, eval a X.env) :: starEach [] X.env := by rfl) (hpl : (backTo pos (starEach [] X.env)).any (·.1) = false := by rfl) :
    Ev X H0 Oc Γ (.Call (.Name "sorted" p) [a] [] pos) (.ow (.lst ((sortI ns).map .int))) := ev_b1 cr_sortedI ha hm (by decide +kernel) hg (fun G S H v Q ⟨O, W⟩ q => by
      obtain ⟨u, g1, t, vs, rfl, h1, h2⟩ := W.head
      cases g1
      rw [Reps.ints h2] at h1
      refine ⟨t, ns, rfl, .of h1, fun ms pp m1 m2 hp => q _ _ ⟨_, W.pop.newLst hp (ds := (sortI ns).map .int) ?_⟩⟩
      rw [PySem.W.os_sorted_mergeSort m1 m2]
      exact Reps.of_ints) (by decide) (by decide) he hpl
/-- sorted(tuple of ints) -/
theorem e_sortTI (hm : X.mg "sorted" = none) (ha : Ev X H0 Oc Γ a (.bw (encT ns))) (hg : Gl X "sorted" := by rfl) (he : starEach [a] X.env = (false, eval a X.env) :: starEach [] X.env := by rfl) (hpl : (backTo pos (starEach [] X.env)).any (·.1) = false := by rfl) :
    Ev X H0 Oc Γ (.Call (.Name "sorted" p) [a] [] pos) (.ow (.lst ((sortI ns).map .int))) := ev_b1 Srt2.cr_sortedTI ha hm (by decide +kernel) hg (fun G S H v Q ⟨O, W⟩ q => by
      obtain ⟨u, g1, t, vs, rfl, h1, h2⟩ := W.head
      cases g1
      rw [Reps.ints h2] at h1
      refine ⟨t, ns, rfl, .of h1, fun ms pp m1 m2 hp => q _ _ ⟨_, W.pop.newLst hp (ds := (sortI ns).map .int) ?_⟩⟩
      rw [PySem.W.os_sorted_mergeSort m1 m2]
      exact Reps.of_ints) (by decide) (by decide) he hpl
end
theorem Reps.mem {K : PySem.W.Frag} {H : Hp} {α : Type} {f : α → D} : ∀ {L : List α} {vs : List V} {v : V}, Reps K H (L.map f) vs → v ∈ vs → ∃ a ∈ L, Rep K H (f a) v
  | [], _, _, h, hm => by cases (show _ = [] from h); simp at hm
  | a :: L, _, v, ⟨u, us, e, h1, h2⟩, hm => by
    subst e
    rcases List.mem_cons.mp hm with e | hm
    · exact ⟨a, List.mem_cons_self, e ▸ h1⟩
    · obtain ⟨b, hb, r⟩ := Reps.mem h2 hm
      exact ⟨b, List.mem_cons_of_mem _ hb, r⟩
theorem Reps.pair {K : PySem.W.Frag} {H : Hp} {α : Type} {f : α → D} {R : V → V → Prop} {P : α → α → Prop} : ∀ {L : List α} {vs : List V}, Reps K H (L.map f) vs → vs.Pairwise R → (∀ a ∈ L, ∀ b ∈ L, ∀ x y, Rep K H (f a) x → Rep K H (f b) y → R x y → P a b) → L.Pairwise P
  | [], _, _, _, _ => .nil
  | a :: L, _, ⟨u, us, e, h1, h2⟩, hp, hP => by
    subst e
    obtain ⟨p1, p2⟩ := List.pairwise_cons.mp hp
    refine List.pairwise_cons.mpr ⟨fun b hb => ?_, Reps.pair h2 p2 fun a' ha' b' hb' => hP a' (List.mem_cons_of_mem _ ha') b' (List.mem_cons_of_mem _ hb')⟩
    obtain ⟨i, hi⟩ := List.mem_iff_getElem?.mp hb
    obtain ⟨y, hy, ry⟩ := h2.get (i := i) (d := f b) (by rw [List.getElem?_map, hi]; rfl)
    exact hP a List.mem_cons_self b (List.mem_cons_of_mem _ hb) u y h1 ry (p1 y (List.mem_of_getElem? hy))
section
variable {X : Cx} {W : WX} {H0 : Hp} {Oc : List Addr} {Γ : List Sl} {a b : Expr} {pos p p2 pos2 : Pos} {L : List (List Int)}
theorem tupI_of {K : PySem.W.Frag} {H : Hp} {O : List Addr} {ns : List Int} {v : V} (h : Rep K (cut H O) (encT ns) v) : TupI K H v ns := by
  obtain ⟨t, e, ht⟩ := rep_tup h
  exact ⟨t, e, .of (cut_ex _ _ ht)⟩
/-- sorted(list of tuples of d ints in [0, B)), fewer than 64 -/
theorem e_sortL (d : Nat) (B : Int) (hd : 1 ≤ d) (hm : X.mg "sorted" = none) (ha : Ev X H0 Oc Γ a (.bw (.lst (L.map encT)))) (hlen : L.length < 64) (hL : ∀ x ∈ L, x.length = d ∧ TS.Bd B x) (hg : Gl X "sorted" := by rfl) (he : starEach [a] X.env = (false, eval a X.env) :: starEach [] X.env := by rfl) (hpl : (backTo pos (starEach [] X.env)).any (·.1) = false := by rfl) :
    Ev X H0 Oc Γ (.Call (.Name "sorted" p) [a] [] pos) (.ow (.lst ((sortL L).map encT))) := ev_b1 (cr_sortT (d := d) (B := B) hd) ha hm (by decide +kernel) hg (fun G S H v Q ⟨O, W⟩ q => by
      obtain ⟨u, g1, t, vs, rfl, h1, h2⟩ := W.head
      cases g1
      refine ⟨t, vs, rfl, .of h1, by rw [h2.len, List.length_map]; exact hlen, fun x hx => ?_, fun ys pp m1 m2 hp => q _ _ ⟨_, W.pop.newLst hp (ds := (sortL L).map encT) ?_⟩⟩
      · obtain ⟨ns, hns, r⟩ := h2.mem hx
        exact ⟨ns, tupI_of r, hL ns hns⟩
      · obtain ⟨M, n1, n2⟩ := h2.perm m1
        have e : M = sortL L := sortL_uniq n1 (n2.pair m2 fun a ha b hb x y rx ry hR => by
          obtain ⟨l1, b1⟩ := hL a (n1.mem_iff.mp ha)
          obtain ⟨l2, b2⟩ := hL b (n1.mem_iff.mp hb)
          exact lex_code (l1.trans l2.symm) b1 b2 (hR a b (tupI_of rx) (tupI_of ry)))
        rw [← e]
        exact n2) (by decide) (by decide) he hpl
def dd {α : Type} [DecidableEq α] : List α → List α
  | [] => []
  | x :: xs => if x ∈ xs then dd xs else x :: dd xs
theorem mem_dd {α : Type} [DecidableEq α] {x : α} : ∀ {xs : List α}, x ∈ dd xs ↔ x ∈ xs
  | [] => Iff.rfl
  | y :: ys => by
    unfold dd
    split
    · rename_i h
      rw [mem_dd, List.mem_cons]
      exact ⟨.inr, fun z => z.elim (fun e => e ▸ h) id⟩
    · rw [List.mem_cons, List.mem_cons, mem_dd]
theorem nodup_dd {α : Type} [DecidableEq α] : ∀ (xs : List α), (dd xs).Nodup
  | [] => List.nodup_nil
  | y :: ys => by
    unfold dd
    split
    · exact nodup_dd ys
    · rename_i h
      exact List.nodup_cons.mpr ⟨fun z => h (mem_dd.mp z), nodup_dd ys⟩
def sortSet (L : List (List Int)) : List (List Int) := sortL (dd L)
theorem sortSet_uniq {M L : List (List Int)} (hn : M.Nodup) (hm : ∀ x, x ∈ M ↔ x ∈ L) (hp : M.Pairwise (fun a b => lexLe a b = true)) : M = sortSet L :=
  sortL_uniq ((List.perm_ext_iff_of_nodup hn (nodup_dd L)).mpr fun x => by rw [hm, mem_dd]) hp
theorem mem_sortSet {L : List (List Int)} {x : List Int} : x ∈ sortSet L ↔ x ∈ L := by
  unfold sortSet
  rw [(sortL_perm _).mem_iff, mem_dd]
theorem refs_of {K : PySem.W.Frag} {H : Hp} : ∀ {L : List (List Int)} {vs : List V}, Reps K H (L.map encT) vs → ∃ ks : List (Addr × List Int), vs = ks.map (fun p => V.ref p.1) ∧ ks.map (·.2) = L ∧ ∀ p ∈ ks, Rep K H (encT p.2) (.ref p.1)
  | [], _, h => by cases (show _ = [] from h); exact ⟨[], rfl, rfl, by simp⟩
  | a :: L, _, ⟨u, us, e, h1, h2⟩ => by
    subst e
    obtain ⟨ks, e1, e2, e3⟩ := refs_of h2
    obtain ⟨t, e, _⟩ := rep_tup h1
    subst e
    refine ⟨(t, a) :: ks, by rw [e1]; rfl, by rw [← e2]; rfl, fun p hp => ?_⟩
    rcases List.mem_cons.mp hp with e | hp
    · rw [e]; exact h1
    · exact e3 p hp
theorem reps_of {K : PySem.W.Frag} {H : Hp} : ∀ {ks : List (Addr × List Int)}, (∀ p ∈ ks, Rep K H (encT p.2) (.ref p.1)) → Reps K H ((ks.map (·.2)).map encT) (ks.map fun p => V.ref p.1)
  | [], _ => rfl
  | p :: ks, h => ⟨_, _, rfl, h p List.mem_cons_self, reps_of fun q hq => h q (List.mem_cons_of_mem _ hq)⟩
/-- sorted(set(list of tuples of d ints in [0, B))) -/
theorem e_sortSet (d : Nat) (B : Int) (hd : 1 ≤ d) (hm : X.mg "sorted" = none) (hm2 : X.mg "set" = none) (hc : X.calm = true) (hu : X.A.units + 64 < cLine) (ha : Ev X H0 Oc Γ a (.bw (.lst (L.map encT)))) (hlen : L.length < 64) (hL : ∀ x ∈ L, x.length = d ∧ TS.Bd B x) (hg : Gl X "sorted" := by rfl) (hg2 : Gl X "set" := by rfl)
    (he : starEach [.Call (.Name "set" p2) [a] [] pos2] X.env = (false, eval (.Call (.Name "set" p2) [a] [] pos2) X.env) :: starEach [] X.env := by rfl) (hpl : (backTo pos (starEach [] X.env)).any (·.1) = false := by rfl)
    (he2 : starEach [a] X.env = (false, eval a X.env) :: starEach [] X.env := by rfl) (hpl2 : (backTo pos2 (starEach [] X.env)).any (·.1) = false := by rfl) :
    Ev X H0 Oc Γ (.Call (.Name "sorted" p) [.Call (.Name "set" p2) [a] [] pos2] [] pos) (.ow (.lst ((sortSet L).map encT))) := fun Δ τ σ H Q hl w kk => by
  refine wpE.of (pe_callB (cr_sortedT hc) hg hm (by decide +kernel) (pa_cons (pe_callTy (cr_setOfT hc hu) hg2 hm2 (by decide +kernel) (pa_cons pe_wp pa_nil he2) (by decide) (by decide) he2 hpl2) pa_nil he) (by decide) (by decide) he hpl) ?_
  refine ha Δ τ σ H _ hl w fun v H1 ⟨O, w1⟩ => ?_
  obtain ⟨u, g1, t, vs, rfl, h1, h2⟩ := w1.head
  cases g1
  obtain ⟨ks, rfl, k2, k3⟩ := refs_of h2
  have st : ∀ p ∈ ks, SqT X.K H1 p.1 (p.2.map V.int) := fun p hp => by
    obtain ⟨t, e, ht⟩ := rep_tup (k3 p hp)
    cases e
    exact .of (cut_ex _ _ ht)
  have kl : ks.length < 64 := by rw [← List.length_map (f := (·.2)), k2]; exact hlen
  refine ⟨t, ks, rfl, .of h1, st, kl, fun sa S na s1 s2 => ?_⟩
  have gr : Ex H1 (upd H1 sa (SetTO X.prog X.w sa S)) := Ex.new na
  refine ⟨sa, S, d, B, rfl, upd_same, fun p hp => Ex.t gr (st p (s1 p hp)), hd, fun p hp => hL p.2 (by rw [← k2]; exact List.mem_map.mpr ⟨p, s1 p hp, rfl⟩), fun L' pp m1 m2 m3 m4 hp => ?_⟩
  have e : L'.map (·.2) = sortSet L := by
    refine sortSet_uniq m2 (fun x => ?_) ?_
    · constructor
      · intro hx
        obtain ⟨q, hq, e⟩ := List.mem_map.mp hx
        rw [← k2, ← e]
        exact List.mem_map.mpr ⟨q, s1 q (m1.mem_iff.mp hq), rfl⟩
      · intro hx
        rw [← k2] at hx
        obtain ⟨q, hq, e⟩ := List.mem_map.mp hx
        obtain ⟨q', hq', e'⟩ := List.mem_map.mp (s2 q hq)
        exact List.mem_map.mpr ⟨q', m1.mem_iff.mpr hq', e'.trans e⟩
    · refine List.pairwise_map.mpr (List.Pairwise.imp_of_mem (fun {q r} hq hr hcd => ?_) m4)
      have z : ∀ q ∈ L', q.2 ∈ L := fun q hq => by rw [← k2]; exact List.mem_map.mpr ⟨q, s1 q (m1.mem_iff.mp hq), rfl⟩
      obtain ⟨l1, b1⟩ := hL q.2 (z q hq)
      obtain ⟨l2, b2⟩ := hL r.2 (z r hr)
      exact lex_code (l1.trans l2.symm) b1 b2 hcd
  have w2 := w1.pop.grow gr
  refine kk _ _ ⟨_, w2.newLst hp (ds := (sortSet L).map encT) ?_⟩
  rw [← e]
  refine reps_of fun q hq => Rep.mono (cut_mono gr) (k3 q (s1 q (m1.mem_iff.mp hq)))
end
end Y

namespace Y
open PySem PySem.Spec PyProof.Rows L2
section
variable {X : Cx} {W : WX} {H0 : Hp} {Oc : List Addr} {Γ : List Sl} {a b tg elt : Expr} {d : D} {ds : List D} {i j : Int} {pos p p2 pos2 : Pos} {s : Sl} {rest : List Stmt} {out : Out}
theorem it_enT {K : PySem.W.Frag} {l : Addr} (hs : s.held = some (.tup ds)) : ItOk K H0 Oc (EnT.Iet K l) [s] [some (.ref l)] (enumD ds) := by
  refine ⟨rfl, held_stab hs, fun i Δp G τp S H hp hi ⟨O, w⟩ => ?_, fun i Δp G τp S H hp hi ⟨O, w⟩ => ?_⟩
  · obtain ⟨l', vs, e, g1, g2⟩ := held_b w.ex (w.drop hp).head hs
    cases e
    rw [enumD_len] at hi
    obtain ⟨d', v', e1, e2, rv⟩ := g2.lt_get hi
    refine ⟨⟨vs, v', .of g1, e2⟩, fun x H' y => ?_⟩
    obtain ⟨T, z, ex, hT, eH, y⟩ := y
    subst eH
    subst ex
    have e3 := y vs (.of g1)
    rw [e2] at e3
    cases e3
    exact ⟨_, enumD_get e1, O, w.newTup hT (Reps.cons (show Rep K _ (.int (i : Int)) (.int (i : Int)) from rfl) (Reps.one rv))⟩
  · obtain ⟨l', vs, e, g1, g2⟩ := held_b w.ex (w.drop hp).head hs
    cases e
    rw [enumD_len] at hi
    exact ⟨vs, .of g1, by rw [g2.len]; exact hi⟩
/-- enumerate(tuple) -/
theorem i_enT {α : Type} (enc : α → D) (xs : List α) {elts : List Expr} {kk : Nat} {tpos : Pos} (hm : X.mg "enumerate" = none) (ha : Ev X H0 Oc Γ a s) (hs : s.held = some (.tup (xs.map enc)) := by rfl) (hg : Gl X "enumerate" := by rfl) (hst : starEach [a] X.env = [(false, eval a X.env)] := by rfl) (hst' : starEach [a] X.env = (false, eval a X.env) :: starEach [] X.env := by rfl) :
    Ei X H0 Oc Γ (.Tuple elts kk tpos) (.Call (.Name "enumerate" p) [a] [] pos) ((enumF 0 xs).map fun p => .tup [.int (p.1 : Int), enc p.2]) :=
  Ei.as ⟨_, EnT.pi_enT hg hm (pa_cons pe_wp pa_nil hst') hst, fun Δ τ σ H R hl w k => ha Δ τ σ H _ hl w fun v H1 w1 => by
    obtain ⟨O, w1'⟩ := id w1
    obtain ⟨l, vs, rfl, h1, h2⟩ := held_b w1'.ex w1'.head hs
    exact ⟨l, vs, rfl, .of h1, k _ [s] [some (.ref l)] H1 (fun _ _ => it_enT hs) (held_arg hs) w1⟩⟩ (enumD_map enc xs)
/-- range(a, b) as numbers -/
theorem i_rng2 {i j : Nat} (hm : X.mg "range" = none) (ha : Ev X H0 Oc Γ a (.va (.int (i : Int)))) (hb : Ev X H0 Oc Γ b (.va (.int (j : Int)))) (h1 : i ≤ 1000000000) (h2 : j ≤ 1000000000) (hg : Gl X "range" := by rfl)
    (hs : starEach [a, b] X.env = (false, eval a X.env) :: starEach [b] X.env := by rfl) (hs2 : starEach [b] X.env = (false, eval b X.env) :: starEach [] X.env := by rfl) (hs' : starEach [a, b] X.env = [(false, eval a X.env), (false, eval b X.env)] := by rfl) :
    Ei X H0 Oc Γ tg (.Call (.Name "range" p) [a, b] [] pos) ((List.range (j - i)).map fun k : Nat => D.int ((i + k : Nat) : Int)) :=
  (ei_rng2 ha hb ⟨by omega, by omega, by omega, by omega⟩ hm hg (hs1 := hs) (hs2 := hs2)).as (by
    unfold rngD
    rw [show (((j : Int) - (i : Int)).toNat) = j - i by omega]
    exact List.map_congr_left fun k _ => by rw [Int.natCast_add])
/-- list(range(n)) -/
theorem e_listRg {n : Nat} (hm : X.mg "list" = none) (hm2 : X.mg "range" = none) (hc : X.calm = true) (ha : Ev X H0 Oc Γ a (.va (.int (n : Int)))) (hn : n ≤ 1000000) (hg : Gl X "list" := by rfl) (hg2 : Gl X "range" := by rfl)
    (he : starEach [.Call (.Name "range" p2) [a] [] pos2] X.env = (false, eval (.Call (.Name "range" p2) [a] [] pos2) X.env) :: starEach [] X.env := by rfl) (he2 : starEach [a] X.env = (false, eval a X.env) :: starEach [] X.env := by rfl) :
    Ev X H0 Oc Γ (.Call (.Name "list" p) [.Call (.Name "range" p2) [a] [] pos2] [] pos) (.ow (.lst ((List.range n).map fun k : Nat => .int k))) := fun Δ τ σ H Q hl w kk => by
  refine wpE.of (pe_listRg hc hg hm (prg_1 hg2 hm2 pe_wp he2) he) ?_
  refine ha Δ τ σ H _ hl w fun v H1 ⟨O, w1⟩ => ?_
  obtain ⟨u, g1, r⟩ := w1.head
  cases g1
  obtain rfl : v = .int (n : Int) := r
  refine ⟨n, rfl, .of_le (by omega) (by omega) (by omega) (by omega), fun pp hp => kk _ _ ⟨_, w1.pop.newLst hp (ds := (List.range n).map fun k : Nat => .int k) ?_⟩⟩
  have e : rgV 0 (n : Int) = (((List.range n).map fun k : Nat => (k : Int)).map V.int) := by
    unfold rgV
    rw [show ((n : Int) - 0).toNat = n by omega, List.map_map]
    exact List.map_congr_left fun k _ => by show V.int (0 + (k : Int)) = V.int (k : Int); rw [Int.zero_add]
  rw [e, show ((List.range n).map fun k : Nat => D.int (k : Int)) = ((List.range n).map fun k : Nat => (k : Int)).map .int by rw [List.map_map]; rfl]
  exact Reps.of_ints
/-- all([..]), any([..]) -/
theorem e_allL {α : Type} {xs : List α} (f : α → Bool) (hm : X.mg "all" = none) (hc : X.calm = true) (ha : Ev X H0 Oc Γ a (.ow (.lst (xs.map fun x => .bl (f x))))) (hg : Gl X "all" := by rfl) (he : starEach [a] X.env = (false, eval a X.env) :: starEach [] X.env := by rfl) (hpl : (backTo pos (starEach [] X.env)).any (·.1) = false := by rfl) :
    Ev X H0 Oc Γ (.Call (.Name "all" p) [a] [] pos) (.va (.bl (xs.all f))) := by
  have e : (xs.map fun x => D.bl (f x)) = (xs.map f).map .bl := by rw [List.map_map]; rfl
  have := e_all (pos := pos) (p := p) hm hc ((Ev.aso ha (congrArg D.lst e)).r) hg he hpl
  rw [List.all_map] at this
  exact this
theorem e_anyL {α : Type} {xs : List α} (f : α → Bool) (hm : X.mg "any" = none) (hc : X.calm = true) (ha : Ev X H0 Oc Γ a (.ow (.lst (xs.map fun x => .bl (f x))))) (hg : Gl X "any" := by rfl) (he : starEach [a] X.env = (false, eval a X.env) :: starEach [] X.env := by rfl) (hpl : (backTo pos (starEach [] X.env)).any (·.1) = false := by rfl) :
    Ev X H0 Oc Γ (.Call (.Name "any" p) [a] [] pos) (.va (.bl (xs.any f))) := by
  have e : (xs.map fun x => D.bl (f x)) = (xs.map f).map .bl := by rw [List.map_map]; rfl
  have := e_any (pos := pos) (p := p) hm hc ((Ev.aso ha (congrArg D.lst e)).r) hg he hpl
  rw [List.any_map] at this
  exact this
/-- x in list, x not in list -/
theorem pys_map {α : Type} {f : α → D} : ∀ xs : List α, pys (xs.map f) = xs.map fun x => py (f x)
  | [] => rfl
  | x :: xs => by show py (f x) :: pys (xs.map f) = _; rw [pys_map xs]; rfl
theorem any_eq {α : Type} [DecidableEq α] {f : α → D} (h : EqC f) (x : α) : ∀ xs : List α, ((xs.map fun z => py (f z)).any fun z => PyData.eqv z (py (f x))) = decide (x ∈ xs)
  | [] => rfl
  | z :: zs => by
    show (eqD (f z) (f x) || (zs.map fun z => py (f z)).any _) = _
    rw [h z x, any_eq h x zs]
    by_cases e : z = x
    · simp [e]
    · simp [e, Ne.symm e]
theorem c_in {α : Type} [DecidableEq α] {f : α → D} (hu : X.A.units + 65 < cLine) (h : EqC f) (n : Nat) (hk : ∀ x, okN n (f x)) (hn : n + 1 ≤ 64) (x : α) (xs : List α) : C2 X H0 Oc .In (.bw (f x)) (.bw (.lst (xs.map f))) (decide (x ∈ xs)) := ⟨_, op_inD hu, fun G S H v w Q ⟨O, W⟩ q => by
  obtain ⟨r1, r2, W'⟩ := bw2 W
  have k1 := Bool.and_eq_true_iff.mp ((hk x).ok (by omega))
  have k2 := Bool.and_eq_true_iff.mp ((okN_lst (okN_map (xs := xs) hk)).ok hn)
  have e : py (.lst (xs.map f)) = .list (xs.map fun z => py (f z)) := by show PyData.list (pys (xs.map f)) = _; rw [pys_map]
  have d2 := r2.dp cut_ex k2.1
  rw [e] at d2
  have s2 := k2.2
  rw [e] at s2
  refine ⟨_, _, r1.dp cut_ex k1.1, d2, k1.2, s2, ?_⟩
  rw [any_eq h]
  exact q H ⟨O, W'⟩⟩
theorem c_nin {α : Type} [DecidableEq α] {f : α → D} (hu : X.A.units + 65 < cLine) (h : EqC f) (n : Nat) (hk : ∀ x, okN n (f x)) (hn : n + 1 ≤ 64) (x : α) (xs : List α) : C2 X H0 Oc .NotIn (.bw (f x)) (.bw (.lst (xs.map f))) (!decide (x ∈ xs)) := ⟨_, op_notInD hu, fun G S H v w Q ⟨O, W⟩ q => by
  obtain ⟨r1, r2, W'⟩ := bw2 W
  have k1 := Bool.and_eq_true_iff.mp ((hk x).ok (by omega))
  have k2 := Bool.and_eq_true_iff.mp ((okN_lst (okN_map (xs := xs) hk)).ok hn)
  have e : py (.lst (xs.map f)) = .list (xs.map fun z => py (f z)) := by show PyData.list (pys (xs.map f)) = _; rw [pys_map]
  have d2 := r2.dp cut_ex k2.1
  rw [e] at d2
  have s2 := k2.2
  rw [e] at s2
  refine ⟨_, _, r1.dp cut_ex k1.1, d2, k1.2, s2, ?_⟩
  rw [any_eq h]
  exact q H ⟨O, W'⟩⟩
theorem hu65 {A : Around} {k : Nat} (hr : Room k A) : A.units + 65 < cLine := by
  have := hr.un
  omega
theorem tw_two {x z : Str} {p3 : Pos} {kk : Nat} {d1 d2 : D} {vs : List Nat} (n1 n2 : Nat) (hc : X.calm = true) (hN : X.N.Nodup) (h1 : X.N[n1]? = some x := by rfl) (h2 : X.N[n2]? = some z := by rfl) (hx : Loc X.env.scope x := by first | exact .inl rfl | exact .inr rfl) (hz : Loc X.env.scope z := by first | exact .inl rfl | exact .inr rfl) (hf : X.fn x = true ∨ X.env.scope.names.lookup x = some .local := by first | exact .inr rfl | exact .inl rfl) (hg : X.fn z = true ∨ X.env.scope.names.lookup z = some .local := by first | exact .inr rfl | exact .inl rfl) (hv1 : n1 ∈ vs := by simp) (hv2 : n2 ∈ vs := by simp) :
    Tgw X H0 Oc vs (.Tuple [.Name x p, .Name z p2] kk p3) Γ (.va (.tup [d1, d2])) ((Γ.set n1 (.va d1)).set n2 (.va d2)) := tgw_tup2 n1 n2 hc hN h1 h2 hx hz hf hg hv1 hv2
end
theorem okT (ns : List Int) : okN 1 (encT ns) := okN_tup (okN_map fun _ => okN_int)
theorem eqT' : EqC encT := eqC_tup eqC_int
theorem okI (n : Int) : okN 0 (D.int n) := okN_int
theorem okLI (ns : List Int) : okN 1 (D.lst (ns.map .int)) := okN_lst (okN_map fun _ => okN_int)
theorem eqLI : EqC fun ns : List Int => D.lst (ns.map .int) := eqC_lst eqC_int
theorem okLT (ns : List (List Int)) : okN 2 (D.lst (ns.map encT)) := okN_lst (okN_map okT)
theorem eqLT : EqC fun ns : List (List Int) => D.lst (ns.map encT) := eqC_lst eqT'
end Y

namespace Y
open PySem PySem.Spec PyProof.Rows L2
/-! ## the built-in names that stand for themselves -/
structure Bi (mg : Str → Option Value) : Prop where
  len : mg "len" = none
  int : mg "int" = none
  tuple : mg "tuple" = none
  range : mg "range" = none
  list : mg "list" = none
  enum : mg "enumerate" = none
  isi : mg "isinstance" = none
  bool : mg "bool" = none
  all : mg "all" = none
  any : mg "any" = none
  min : mg "min" = none
  max : mg "max" = none
  sorted : mg "sorted" = none
  set : mg "set" = none
  vE : mg "ValueError" = none
theorem bt_list : bootBuiltins ("list" : Str) = some (.type "list") := by decide +kernel
theorem bt_tuple : bootBuiltins ("tuple" : Str) = some (.type "tuple") := by decide +kernel
theorem bt_int : bootBuiltins ("int" : Str) = some (.type "int") := by decide +kernel
theorem bt_bool : bootBuiltins ("bool" : Str) = some (.type "bool") := by decide +kernel
theorem bt_str : bootBuiltins ("str" : Str) = some (.type "str") := by decide +kernel
theorem bt_ve : bootBuiltins ("ValueError" : Str) = some (.type "ValueError") := by decide +kernel
theorem ki_ll : PySem.W.kitOne [] (.type "list") (.type "list") = some true := by decide +kernel
theorem ki_tt : PySem.W.kitOne [] (.type "tuple") (.type "tuple") = some true := by decide +kernel
theorem ki_ii : PySem.W.kitOne [] (.type "int") (.type "int") = some true := by decide +kernel
theorem ki_ib : PySem.W.kitOne [] (.type "int") (.type "bool") = some false := by decide +kernel
theorem ki_bb : PySem.W.kitOne [] (.type "bool") (.type "bool") = some true := by decide +kernel
theorem ki_ss : PySem.W.kitOne [] (.type "str") (.type "str") = some true := by decide +kernel
theorem kit_self {K : PySem.W.Frag} {C : Addr} : PySem.W.kitOne K (.ref C) (.ref C) = some true := by
  unfold PySem.W.kitOne
  rw [if_pos (by simp)]
/-- a slot with these data -/
def One (s0 : Sl) (d : D) : Prop := s0.dat = some d
theorem rng_lt {n k : Nat} {pre post : List Nat} (h : List.range n = pre ++ k :: post) : k < n := by
  have : k ∈ List.range n := by rw [h]; simp
  exact List.mem_range.mp this
theorem ixN_last {n : Nat} (h : 0 < n) : L2.ixN n (-1) = some (n - 1) := by
  unfold L2.ixN
  rw [if_neg (by decide), if_pos (by omega)]
  congr 1
  omega
theorem ixN_nat {n k : Nat} (h : k < n) : L2.ixN n (k : Int) = some k := by
  unfold L2.ixN
  rw [if_pos (by omega), if_pos (by omega)]
  simp
theorem sds_nilq {X : Cx} {W : WX} {H0 : Hp} {Oc : List Addr} {Γ Γ1 : List Sl} (e : Γ = Γ1) : Sds X W H0 Oc Γ [] (.nx Γ1) := e ▸ sds_nil
/-! ## defs called in an except suite -/
open L2H
structure FnGH (Pr : Program) (w : World) (K : PySem.W.Frag) (mg : Str → Option Value) (base : Heap) (x : Str) (k : Nat) (ps : List Str) (P : Pm) : Prop where
  ex : ∃ f fd, FnH Pr w K mg base (L2N.CX Pr w) k f fd ps (mkSp K P) ∧ mg x = some (.ref f) ∧ PySem.W.keepIn K (.ref f) = true ∧ L2.Binds K fd ps []
section
variable {Pr : Program} {w : World} {K : PySem.W.Frag} {mg : Str → Option Value} {base : Heap}
theorem fn_sdsH {x qual : Str} {st : Stmt} {f : Addr} {fd : FuncData} {N ps : List Str} {k : Nat} {P : Pm} (F : Fun K x qual st f fd) (S : FnScope N ps (defScope st)) (hlen : ∀ Γ o, P Γ o → Γ.length = ps.length)
    (hb : ∀ (cdv : Value) (A : Around) (outer : List Env) (s : Shared) (H : Hp) (E : XK) (p : Addr × Obj), Hot1 A p → RoomH k (A.deeper (envOfC qual (defScope st) s.heap.objs.size f cdv)) → ∀ (H0 : Hp) (Oc : List Addr) (Γ : List Sl) (o : Out), P Γ o →
      ∃ o', Sds (cxH (L2N.CX Pr w) Pr w K mg base N qual (defScope st) f cdv A outer s H E p) (wx E) H0 Oc (Γ ++ List.replicate (N.length - ps.length) .no) (defBody st) o' ∧ Fin o' o) :
    FnH Pr w K mg base (L2N.CX Pr w) (k + 1) f fd ps (mkSp K P) := by
  obtain ⟨oc, od, kV, doc, pm, an, cdv, ct, osl, rfl, lk, hcd⟩ := F.ex
  have len : ∀ vs H Q E, mkSp K P vs H Q E → vs.length = ps.length := fun vs H Q E ⟨Oc, Γ, o, hp, ⟨O, w⟩, _⟩ => by
    rw [← hlen Γ o hp, ← w.len, List.length_map]
  refine fn_ofH lk hcd S len fun A outer s H vs Q E p hot hr hsp => ?_
  have hl := len vs H Q E hsp
  obtain ⟨Oc, Γ, o, hp, ⟨O, w0⟩, sat⟩ := hsp
  obtain ⟨o', hS, fin⟩ := hb cdv A outer s H E p hot hr H Oc Γ o hp
  refine ⟨wpSs _ _, pss_wp, hS [] [] (L2.start N vs) H _ rfl rfl ⟨O, ?_⟩ ?_⟩
  · unfold L2.start
    rw [← hl]
    exact w0.pad _
  · match o', fin with
    | .nx Γ', fin =>
      subst fin
      exact fun σ H' ⟨O', w'⟩ => sat .non H' (Wf.only ⟨O', w'.flat rfl (show Rep K H' .non .non from rfl)⟩)
    | .ret s', fin =>
      subst fin
      exact sat
    | .exc C ns ds Γe, fin =>
      obtain ⟨Γe', rfl⟩ := fin
      intro d σ H' xw
      refine sat d H' ?_
      cases Γe with
      | none => exact xw
      | some Γ2 => exact Wf.only (show Wf K H Oc (.va (.xd ns ds) :: ([] ++ Γ2)) (some (.ref d) :: ([] ++ σ)) H' from xw)
end
theorem hot_suite {X : Cx} {a C dd : Addr} {oe : Obj} {pn : List (Addr × Obj)} (hz : L2N.Zn (.ref C) (some dd) oe) (hf : ∃ vs, oe.data = .fields vs) : HotC (X.suite a ((a, oe) :: pn)) := by
  obtain ⟨vs, hv⟩ := hf
  exact ⟨(a, oe), ⟨rfl, vs, hv, hz.2.2 vs hv⟩, List.mem_cons_self⟩
theorem ev_callH {X : Cx} {H0 : Hp} {Oc : List Addr} {Γ : List Sl} {e : Expr} {es : List Expr} {ss : List Sl} {s : Sl} {x : Str} {k : Nat} {ps : List Str} {P : Pm} {p pos : Pos} {ad C dd : Addr} {oe : Obj} {pn : List (Addr × Obj)} (hz : L2N.Zn (.ref C) (some dd) oe) (hf : ∃ vs, oe.data = .fields vs)
    (F : FnGH X.prog X.w X.K X.mg X.base x k ps P) (hr : RoomH k X.A) (ha : Ea (X.suite ad ((ad, oe) :: pn)) H0 Oc Γ (e :: es) ss) (hp : P (ss.map Sl.arg) (.ret s)) (hs : s.res = true := by rfl) (hg : Gl X x := by rfl) (hdb : (x == ("__debug__" : Str)) = false := by decide)
    (he : starEach (e :: es) X.env = (false, eval e X.env) :: starEach es X.env := by rfl) (hpl : (backTo pos (starEach es X.env)).any (·.1) = false := by rfl) : Ev (X.suite ad ((ad, oe) :: pn)) H0 Oc Γ (.Call (.Name x p) (e :: es) [] pos) s := fun Δ τ σ H Q hl W q => by
  obtain ⟨f, fd, F, hm, hk, hb⟩ := F.ex
  refine wpE.of (L2H.pe_callH (X := X.suite ad ((ad, oe) :: pn)) (E := fun _ => E0) F ⟨hr.dp, hr.un⟩ (hot_suite hz hf) hg hm hk hb (fun σ pins H s e s' I c => (passLN (X := X.suite ad ((ad, oe) :: pn))) pins σ H s e s' I c) pa_wp hdb he hpl) ?_
  refine ha Δ τ σ H _ hl W fun vs O H1 W1 ok => ?_
  exact ⟨O, _, _, hp, W1.callee ok, fun v H' W2 => q v H' (W1.after W2 hs)⟩
end Y

namespace Y
open PySem PySem.Spec PyProof.Rows L2
section
variable {X : Cx} {W : WX} {H0 : Hp} {Oc : List Addr} {Γ : List Sl} {x y z : Str} {p p2 p3 p4 p5 pos : Pos} {d1 d2 d3 : D} {k1 k2 : Nat} {i : Int}
/-- a constant of the module -/
theorem e_gint (hm : ∃ t, X.mg x = some (.int i t)) (hg : Gl X x := by rfl) (hd : (x == ("__debug__" : Str)) = false := by decide) : Ev X H0 Oc Γ (.Name x pos) (.va (.int i)) := by
  obtain ⟨t, hm⟩ := hm
  exact ev_flat (pe_glob (v := .int i) hg hm ⟨t, rfl⟩ hd) (fun _ _ _ q => q) rfl fun _ => rfl
/-- i, (a, b) = .. -/
theorem t_nest (n1 n2 n3 : Nat) (hc : X.calm = true) (hN : X.N.Nodup) (h1 : X.N[n1]? = some x := by rfl) (h2 : X.N[n2]? = some y := by rfl) (h3 : X.N[n3]? = some z := by rfl) (hx : Loc X.env.scope x := by first | exact .inl rfl | exact .inr rfl) (hy : Loc X.env.scope y := by first | exact .inl rfl | exact .inr rfl) (hz : Loc X.env.scope z := by first | exact .inl rfl | exact .inr rfl)
    (fx : X.fn x = true ∨ X.env.scope.names.lookup x = some .local := by first | exact .inr rfl | exact .inl rfl) (fy : X.fn y = true ∨ X.env.scope.names.lookup y = some .local := by first | exact .inr rfl | exact .inl rfl) (fz : X.fn z = true ∨ X.env.scope.names.lookup z = some .local := by first | exact .inr rfl | exact .inl rfl) :
    Tg X H0 Oc (.Tuple [.Name x p, .Tuple [.Name y p2, .Name z p3] k1 p4] k2 p5) Γ (.va (.tup [d1, .tup [d2, d3]])) (((Γ.set n1 (.va d1)).set n2 (.va d2)).set n3 (.va d3)) := fun Δ τ σ H v Q hl st ⟨O, w⟩ k => by
  refine wpG.of (pg_tup (n := 2) hc (pgs_cons (pg_name hN h1 hx fx) (pgs_cons (pg_tup (n := 2) hc (pgs_cons (pg_name hN h2 hy fy) (pgs_cons (pg_name hN h3 hz fz) pgs_nil))) pgs_nil))) ?_
  obtain ⟨u, e, a, vs, rfl, ha, hr⟩ := w.head
  cases e
  obtain ⟨v1, us, rfl, r1, v2, us2, rfl, r2, e3⟩ := hr
  cases e3
  obtain ⟨b, ws, rfl, hb, q1, us3, rfl, s1, q2, us4, rfl, s2, e4⟩ := r2
  cases e4
  refine ⟨a, _, rfl, .of (cut_ex _ _ ha), rfl, v1, [.ref b], rfl, .ref b, [], rfl, ⟨b, _, rfl, .of (cut_ex _ _ hb), rfl, q1, [q2], rfl, q2, [], rfl, rfl, rfl, k _ H ⟨O, ?_⟩⟩⟩
  have w1 := (w.pop.push (s := .va d1) (y := some v1) ⟨v1, rfl, r1⟩ fun _ z => nomatch z).set (n := n1) hl
  have w2 := (w1.push (s := .va d2) (y := some q1) ⟨q1, rfl, s1⟩ fun _ z => nomatch z).set (n := n2) hl
  exact (w2.push (s := .va d3) (y := some q2) ⟨q2, rfl, s2⟩ fun _ z => nomatch z).set (n := n3) hl
end
end Y

namespace TrV
open PySem PySem.Spec PyProof.Rows L2 HT
/-! ## t[::-1] of a tuple -/
section
variable {prog : Program} {w : World} {A : Around} {E : Value → Shared → Prop} {s : Shared}
theorem back_at (n : Nat) : Builtin.Slice.sliceAdjust none none (-1) (n : Int) = ((n : Int) - 1, -1) := rfl
theorem back_n (n : Nat) : Builtin.Slice.slicePlaces ((n : Int) - 1) (-1) (-1) = n := by
  unfold Builtin.Slice.slicePlaces
  rw [if_neg (by decide), show (-(-1) : Int) = 1 from rfl, Int.ediv_one]
  split <;> omega
theorem fm_congr {α β : Type} {f g : α → Option β} : ∀ {l : List α}, (∀ x ∈ l, f x = g x) → l.filterMap f = l.filterMap g
  | [], _ => rfl
  | x :: l, h => by
    rw [List.filterMap_cons, List.filterMap_cons, h x (by simp), fm_congr fun y hy => h y (by simp [hy])]
theorem pick_back (xs : Array Value) : (List.range xs.size).filterMap (fun (k : Nat) => xs[((xs.size : Int) - 1 + (k : Int) * (-1)).toNat]?) = xs.toList.reverse := by
  have h := congrArg List.reverse (PySem.W.krv_all xs)
  rw [← h, ← List.filterMap_reverse, ← PySem.W.krv_range, List.filterMap_map]
  refine fm_congr fun k hk => ?_
  have := List.mem_range.mp hk
  show xs[((xs.size : Int) - 1 + (k : Int) * (-1)).toNat]? = xs[xs.size - 1 - k]?
  rw [show ((xs.size : Int) - 1 + (k : Int) * (-1)).toNat = xs.size - 1 - k by omega]
theorem cut_back {sl : Addr} {v : Value} {n : Nat} {Q : Int × Int × Nat → Shared → Prop} (hs : s.heap.IsSliceOf sl .none .none v) (pv : IsPart v (some (-1)))
    (h : Q ((n : Int) - 1, -1, n) s) : wpAny (model prog w) A (Builtin.Slice.sliceApplied (.ref sl) (pure (n : Int))) Q E s := by
  obtain ⟨os, hos, hcs, hds⟩ := id hs
  unfold Builtin.Slice.sliceApplied Builtin.Slice.sliceFields
  refine wpAny_bind (wpAny_bind (wpAny_field hos hds (x := .none) rfl (wpAny_bind (wpAny_field hos hds (x := .none) rfl (wpAny_bind (wpAny_field hos hds (x := v) rfl (wpAny_pure ?_)))))))
  refine wpAny_bind (slicePart_ pv ?_)
  show wpAny _ _ (if ((-1 : Int) == 0) = true then _ else _) _ _ s
  rw [if_neg (by decide)]
  refine wpAny_bind (slicePart_none (wpAny_bind (slicePart_none (wpAny_bind (wpAny_pure ?_)))))
  show wpAny _ _ (match Builtin.Slice.sliceAdjust none none (-1) (n : Int) with | (lo, hi) => pure (lo, (-1 : Int), Builtin.Slice.slicePlaces lo hi (-1))) _ _ s
  rw [back_at]
  show wpAny _ _ (pure ((n : Int) - 1, (-1 : Int), Builtin.Slice.slicePlaces ((n : Int) - 1) (-1) (-1))) _ _ s
  rw [back_n]
  exact wpAny_pure h
theorem item_back {t sl : Addr} {items : Array Value} {v : Value} {Q : Value → Shared → Prop} (ht : IsTup s.heap t items) (hs : s.heap.IsSliceOf sl .none .none v) (pv : IsPart v (some (-1)))
    (h : Q (.ref s.heap.objs.size) { s with heap := s.heap.push { cls := .type "tuple", data := .seq items.toList.reverse.toArray } })
    (hsz : items.size ≤ sizeLine) : wpAny (model prog w) A (getItem (.ref t) (.ref sl)) Q E s := by
  have htake : sizeOk (.seq items.toList.reverse.toArray) := by
    show items.toList.reverse.toArray.size ≤ sizeLine
    rw [List.size_toArray, List.length_reverse, Array.length_toList]
    omega
  obtain ⟨os, hos, hcs, hds⟩ := id hs
  have hTs : s.TypeIs (.ref sl) "slice" := ⟨os, hos, hcs⟩
  unfold getItem
  try with_reducible refine wpAny_holding ?_
  first | refine wpAny_bind (wpAny_pure ?_) | skip
  refine wpAny_bind (wpAny_sequenceKey ht.typeIs (by decide) ?_)
  refine wpAny_bind (wpAny_callSpecial?_slot (name := Str.ofString "__getitem__") ht.typeIs PyProof.Rows.slot_tuple_getitem
    (wpAny_call_entry PyProof.Rows.slot_tuple_getitem ht.typeIs entry_tuple_getitem ?_ (args_tuple_getitem _ _)))
  show wpAny _ _ (Builtin.Tuple.tupleItemsOf (.ref t) >>= _) _ _ s
  refine wpAny_bind (tupleItemsOf_ ht ?_)
  refine wpAny_bind (wpAny_typeOf hTs ?_)
  rw [if_pos (by decide)]
  refine wpAny_bind (cut_back hs pv ?_)
  have hno : ¬ ((((items.size : Int) - 1) == 0 && (-1 : Int) == 1 && items.size == items.size) = true) := by
    intro q
    rw [Bool.and_eq_true, Bool.and_eq_true] at q
    exact absurd q.1.2 (by decide)
  show wpAny _ _ (if (((items.size : Int) - 1) == 0 && (-1 : Int) == 1 && items.size == items.size) = true then _ else _) _ _ s
  rw [if_neg hno, pick_back]
  first
    | exact wpAny_bind (m := Builtin.Tuple.tupleExact _) (wpAny_newObj_type (wpAny_pure ⟨_, rfl, wpAny_pure h⟩) htake)
    | exact wpAny_bind (m := Builtin.Tuple.tupleExact _) (wpAny_newObj_type (wpAny_bind (wpAny_pure (wpAny_pure ⟨_, rfl, wpAny_pure h⟩))) htake)
    | exact wpAny_bind (wpAny_bind (m := Builtin.Tuple.tupleExact _) (wpAny_newObj_type (wpAny_pure (wpAny_pure ⟨_, rfl, wpAny_pure h⟩)) htake))
    | exact wpAny_bind (wpAny_bind (m := Builtin.Tuple.tupleExact _) (wpAny_newObj_type (wpAny_pure ⟨_, rfl, wpAny_pure h⟩) htake))
end
section
variable {X : Cx}
def tBack (K : PySem.W.Frag) (te : TE) : TE := fun σ H Q => te σ H fun x H1 => ∃ a xs, x = .ref a ∧ SqT K H1 a xs ∧ ∀ p, H1 p = none → Q (.ref p) (upd H1 p (.tup xs.reverse))
theorem pe_back {e : Expr} {te : TE} {k : Nat} {p1 p2 p3 pos : Pos} (he : PE X e te) : PE X (.Subscript e (.Slice none none (some (.UnaryOp .USub (.Constant (.int 1) k p1) p2)) p3) pos) (tBack X.K te) := by
  refine ⟨fun pins s σ H Q I h => ?_⟩
  refine Subscript_ (thn (he.run pins s σ H _ I h) fun v s1 ⟨x, H1, I1, r1, q1⟩ => ?_)
  obtain ⟨a, xs, ex, hx, q⟩ := q1
  subst ex
  cases r1
  have hst : PO X (some (.UnaryOp .USub (.Constant (.int 1) k p1) p2)) (tPart (tUn (rU fun i => .int (-i)) (tC (.int 1)))) := po_some (pe_un un_neg pe_int)
  refine wpAny_Slice (thn (po_none.run pins s1 σ H1 (fun o H2 => o = none ∧ H2 = H1) I1 ⟨rfl, rfl⟩) fun vl s2 ⟨l, H2, I2, pl, el, e2⟩ => ?_)
  subst el e2
  refine thn (po_none.run pins s2 σ H2 (fun o H3 => o = none ∧ H3 = H2) I2 ⟨rfl, rfl⟩) fun vu s3 ⟨u, H3, I3, pu, eu, e3⟩ => ?_
  subst eu e3
  refine thn (hst.run pins s3 σ H3 (fun o H4 => o = some (-1) ∧ H4 = H3) I3 ⟨1, rfl, -1, rfl, rfl, rfl⟩) fun vs s4 ⟨o, H4, I4, ps, eo, e4⟩ => ?_
  subst eo e4
  cases pl
  cases pu
  have I5 : Inv X pins σ H4 { s4 with heap := s4.heap.push { cls := .type "slice", data := .fields #[.none, .none, vs] } } := I4.kept (t' := s4.toks) fun b ob q => Heap.get?_push_of_some _ q
  obtain ⟨its, r, ht, hz⟩ := I5.tuple hx
  have hlen := r.length
  show wpAny (model X.prog X.w) X.A (subscriptTail e (.Slice none none (some (.UnaryOp .USub (.Constant (.int 1) k p1) p2)) p3) (.ref a) (.ref s4.heap.objs.size)) (EP X pins σ Q) X.xe { s4 with heap := s4.heap.push { cls := .type "slice", data := .fields #[.none, .none, vs] } }
  refine tail_any (ops := [.ref a, .ref s4.heap.objs.size]) ht.typeIs PyProof.Rows.slot_tuple_getitem.lookup ?_ (by with_unfolding_all rfl)
  refine item_back ht (Heap.IsSliceOf.new _ .none .none vs) ps ?_ (by rw [List.size_toArray]; omega)
  refine ⟨.ref _, _, I5.laid (t' := s4.toks) (o := .tup xs.reverse) (fun b ob q => Heap.get?_push_of_some _ q) (Nat.le_refl _) ?_, rfl, q _ (I5.hok.fresh (Nat.le_refl _))⟩
  exact ⟨by rw [List.length_reverse]; exact hz, _, r.reverse, IsTup.new _ _⟩
end
end TrV
namespace Y
open PySem L2
theorem ev_revT {X : Cx} {H0 : Hp} {Oc : List Addr} {Γ : List Sl} {a : Expr} {pos p1 p3 p4 : Pos} {k : Nat} {ds : List D} (ha : Ev X H0 Oc Γ a (.va (.tup ds))) : Ev X H0 Oc Γ (.Subscript a (.Slice none none (some (.UnaryOp .USub (.Constant (.int 1) k p1) p3)) p4) pos) (.va (.tup ds.reverse)) := fun Δ τ σ H Q hl W q =>
  wpE.of (TrV.pe_back pe_wp) (ha Δ τ σ H _ hl W fun v H' ⟨O, W'⟩ => by
    obtain ⟨u, g1, p, vs, e1, g3, r⟩ := W'.head
    cases g1
    exact ⟨p, vs, e1, .of (cut_ex _ _ g3), fun x hx => q _ _ ⟨_, W'.pop.newTup hx r.rev⟩⟩)
end Y

namespace Y
open PySem L2
/-! ## a display of int literals -/
def intsOf : List Expr → Option (List Int)
  | [] => some []
  | .Constant (.int i) _ _ :: es => (intsOf es).map (i :: ·)
  | _ => none
section
variable {X : Cx} {W : WX} {H0 : Hp} {Oc : List Addr} {Γ Γ' : List Sl} {es : List Expr} {ns : List Int} {pos : Pos} {b : List Stmt} {o : Out}
theorem ea_ints : ∀ {es : List Expr} {ns : List Int}, intsOf es = some ns → Ea X H0 Oc Γ es (ns.map fun i => .va (.int i))
  | [], ns, h => by
    cases h
    exact ea_nil
  | e :: es, ns, h => by
    unfold intsOf at h
    split at h
    · rename_i heq
      cases heq
    · rename_i heq
      cases heq
      cases q : intsOf es with
      | none => rw [q] at h; cases h
      | some ms =>
        rw [q] at h
        cases h
        exact ea_cons ev_int (ea_ints q)
    · cases h
theorem dats_ints : ∀ (ns : List Int), dats (ns.map fun i => .va (.int i)) = some (ns.map .int)
  | [] => rfl
  | i :: ns => by
    show (dats (ns.map fun i => .va (.int i))).map _ = _
    rw [dats_ints ns]
    rfl
theorem ev_ints (h : intsOf es = some ns) (hn : ns.length ≤ 1000000) : Ev X H0 Oc Γ (.List es pos) (.ow (.lst (ns.map .int))) := ev_lst (ea_ints h) (dats_ints ns) (by rw [List.length_map]; exact hn)
/-- slots that are not needed behind -/
theorem sds_in (hs : Sub Γ Γ') (h : Sds X W H0 Oc Γ' b o) : Sds X W H0 Oc Γ b o := fun Δ τ σ H D hl st w k => h Δ τ σ H D hl st (w.sub hs.app) k
end
end Y

namespace Y
open PySem L2
/-! ## while; dicts whose keys are tuples of ints -/
section
variable {X : Cx} {W : WX} {H0 : Hp} {Oc : List Addr} {Γ : List Sl} {c e ie a b : Expr} {rest body : List Stmt} {pos pos' p tp : Pos} {out : Out} {d : D} {ds : List D} {x : Str} {i j : Int}
theorem d_while {α : Type} (Iv : α → Prop) (μ : α → Nat) (GG : α → List Sl) (a0 : α) (hp : PassesOwn (model X.prog X.w) X.A X.env X.xe) (h0 : Sub Γ (GG a0)) (i0 : Iv a0)
    (hb : ∀ st, Iv st → ∃ q, Et X H0 Oc (GG st) c q ∧ (q = true → (∃ Γ2 st2, Sds X W H0 Oc (GG st) body (.nx Γ2) ∧ Sub Γ2 (GG st2) ∧ Iv st2 ∧ μ st2 < μ st) ∨ (out.exit = true ∧ (∀ G, out ≠ .brk G) ∧ (∀ G, out ≠ .cnt G) ∧ Sds X W H0 Oc (GG st) body out)) ∧ (q = false → Sds X W H0 Oc (GG st) rest out)) :
    Sds X W H0 Oc Γ (.While c body [] pos :: rest) out := fun Δ τ σ H D hl st w k => by
  refine wpSs.of (pss_cons (ps_while hp pt_wp pss_wp) pss_wp) ?_
  refine ⟨fun m σ H => ∃ st, m = μ st ∧ Iv st ∧ Wf X.K H0 Oc (Δ ++ GG st) (τ ++ σ) H, ⟨_, a0, rfl, i0, w.sub h0.app⟩, ?_⟩
  rintro m σ1 H1 ⟨st1, rfl, i1, w1⟩
  obtain ⟨q, hc, ht, hf⟩ := hb st1 i1
  refine hc Δ τ σ1 H1 _ hl w1 fun H2 w2 => ?_
  cases q with
  | false => exact hf rfl Δ τ σ1 H2 D hl st w2 k
  | true =>
    show ∃ N : L2.St → Hp → Prop, _ ∧ _
    rcases ht rfl with ⟨Γ2, st2, s1, s2, i2, lt⟩ | ⟨hx, nb, nc, s1⟩
    · refine ⟨fun σ' H' => Wf X.K H0 Oc (Δ ++ GG st2) (τ ++ σ') H', fun σ' H' w' => ⟨_, lt, st2, rfl, i2, w'⟩, s1 Δ τ σ1 H2 _ hl st w2 fun σ' H' w' => w'.sub s2.app⟩
    · refine ⟨fun _ _ => False, fun _ _ z => z.elim, s1 Δ τ σ1 H2 _ hl st w2 ?_⟩
      cases out with
      | nx G => exact absurd hx Bool.false_ne_true
      | brk G => exact absurd rfl (nb G)
      | cnt G => exact absurd rfl (nc G)
      | ret s => exact k
      | exc C ns ds Γe => exact k
/-- x += e, ints -/
theorem d_aug (n : Nat) (hN : X.N.Nodup) (he : Ev X H0 Oc Γ e (.va (.int j))) (hr : Sds X W H0 Oc (Γ.set n (.va (.int (i + j)))) rest out) (h : Γ[n]? = some (.va (.int i)) := by rfl) (hi : X.N[n]? = some x := by rfl) (hx : Loc X.env.scope x := by first | exact .inl rfl | exact .inr rfl) (hf : X.fn x = true ∨ X.env.scope.names.lookup x = some .local := by first | exact .inr rfl | exact .inl rfl) :
    Sds X W H0 Oc Γ (.AugAssign (.Name x pos') .Add e pos :: rest) out := fun Δ τ σ H D hl st w k => by
  refine wpSs.of (pss_cons (ps_aug hN hi hx pe_wp ip_add hf) pss_wp) ?_
  obtain ⟨O0, w0⟩ := id w
  obtain ⟨y, hy, v, rfl, rv⟩ := slot_of hl w0 h
  refine ⟨v, hy, he Δ τ σ H _ hl w fun u H1 ⟨O, w1⟩ => ?_⟩
  obtain ⟨u', e1, r1⟩ := w1.head
  cases e1
  obtain rfl : u = .int j := r1
  obtain rfl : v = .int i := rv
  exact ⟨i, j, rfl, rfl, hr Δ τ _ H1 D hl st ⟨O, (w1.pop.push (s := .va (.int (i + j))) (y := some (.int (i + j))) ⟨_, rfl, rfl⟩ fun _ z => nomatch z).set hl⟩ k⟩
/-! ### dicts -/
/-- a key: a tuple of ints -/
def kT (k : List Int) : List Key := k.map .inl
theorem kT_inj : ∀ {a b : List Int}, kT a = kT b → a = b
  | [], [], _ => rfl
  | [], _ :: _, h => by cases h
  | _ :: _, [], h => by cases h
  | x :: a, y :: b, h => by
    obtain ⟨h1, h2⟩ := List.cons.inj h
    cases h1
    rw [kT_inj h2]
theorem kT_vs {k : List Int} : (kT k).map kV = k.map V.int := by unfold kT; rw [List.map_map]; rfl
/-- the dict with the keys ks and the values ds -/
def dctT (ks : List (List Int)) (ds : List D) : D := .dT (ks.map kT) ds
theorem rep_key {K : PySem.W.Frag} {H : Hp} {k : List Int} {v : V} (h : Rep K H (encT k) v) : ∃ b, v = .ref b ∧ H b = some (.tup ((kT k).map kV)) := by
  obtain ⟨b, vs, e, h1, h2⟩ := h
  rw [Reps.ints h2] at h1
  exact ⟨b, e, by rw [kT_vs]; exact h1⟩
theorem keys_mem {kvs : List (List Key × V)} {ks : List (List Int)} (h : kvs.map (·.1) = ks.map kT) (k : List Int) : (valV kvs (kT k)).isSome = decide (k ∈ ks) := by
  rw [← valV_any]
  induction kvs generalizing ks with
  | nil =>
    cases ks with
    | nil => simp
    | cons a ks => cases h
  | cons p kvs ih =>
    cases ks with
    | nil => cases h
    | cons a ks =>
      obtain ⟨h1, h2⟩ := List.cons.inj h
      have h1 : p.1 = kT a := h1
      rw [List.any_cons, ih h2, h1]
      by_cases z : k = a
      · subst z
        simp
      · have z' : ¬ kT a = kT k := fun q => z (kT_inj q).symm
        simp [z, z']
/-- the value at a key -/
def atD : List (List Int) → List D → List Int → Option D
  | k :: ks, d :: ds, j => if k = j then some d else atD ks ds j
  | _, _, _ => none
theorem at_rep {K : PySem.W.Frag} {H : Hp} {k : List Int} {d : D} : ∀ {kvs : List (List Key × V)} {ks : List (List Int)} {ds : List D}, kvs.map (·.1) = ks.map kT → Reps K H ds (kvs.map (·.2)) → atD ks ds k = some d → ∃ v, valV kvs (kT k) = some v ∧ Rep K H d v
  | [], [], _, _, _, h => by simp [atD] at h
  | [], _ :: _, _, h, _, _ => by cases h
  | _ :: _, [], _, h, _, _ => by cases h
  | p :: kvs, a :: ks, [], _, r, _ => by
    have := r.len
    simp at this
  | p :: kvs, a :: ks, d0 :: ds, h, ⟨v, us, e1, r1, r2⟩, hd => by
    obtain ⟨h1, h2⟩ := List.cons.inj h
    obtain ⟨e2, e3⟩ := List.cons.inj e1
    have e2 : p.2 = v := e2
    unfold atD at hd
    split at hd
    · rename_i q
      cases hd
      exact ⟨p.2, valV_pos (h1.trans (by rw [q])), by rw [e2]; exact r1⟩
    · rename_i q
      rw [valV_neg fun z => q (kT_inj (h1.symm.trans z))]
      exact at_rep h2 (e3 ▸ r2) hd
theorem dct_rd {K : PySem.W.Frag} {Ht H : Hp} {ks : List (List Int)} {v : V} (h : RepB K Ht H (dctT ks ds) v) : ∃ q kvs, v = .ref q ∧ Rd Ht q (.dT kvs) ∧ kvs.map (·.1) = ks.map kT ∧ Reps K H ds (kvs.map (·.2)) := by
  obtain ⟨q, kvs, e, h1, h2, h3⟩ := h
  exact ⟨q, kvs, e, .of h1, h2, h3⟩
theorem ev_dT0 : Ev X H0 Oc Γ (.Dict [] [] pos) (.ow (dctT [] [])) := fun Δ τ σ H Q hl ⟨O, W⟩ q =>
  wpE.of pe_dnewT fun p hp => q _ _ ⟨_, W.pushOw (o := .dT []) (Ex.new hp) hp upd_same ⟨rfl, rfl⟩⟩
def rInT : R2 := fun y v H Q => ∃ q o, v = .ref q ∧ DGet H q y o ∧ Q (.bl o.isSome) H
def rNinT : R2 := fun y v H Q => ∃ q o, v = .ref q ∧ DGet H q y o ∧ Q (.bl (!o.isSome)) H
theorem op_inT (hu : X.A.units + 1 < cLine) : OpR X (compareOp .In) rInT := by
  intro pins s σ H x y v u Q I rx ry ⟨q, o, e, g, h⟩
  subst e
  cases ry
  exact d_in hu I g rx fun s3 I3 => ⟨.bl o.isSome, H, I3, rfl, h⟩
theorem op_ninT (hu : X.A.units + 1 < cLine) : OpR X (compareOp .NotIn) rNinT := by
  intro pins s σ H x y v u Q I rx ry ⟨q, o, e, g, h⟩
  subst e
  cases ry
  exact d_notIn hu I g rx fun s3 I3 => ⟨.bl (!o.isSome), H, I3, rfl, h⟩
theorem dget_of {K : PySem.W.Frag} {H : Hp} {O : List Addr} {k : List Int} {ks : List (List Int)} {v w : V} (hk : Rep K (cut H O) (encT k) v) (hd : RepB K H (cut H O) (dctT ks ds) w) : ∃ q kvs, w = .ref q ∧ DGet H q v (valV kvs (kT k)) ∧ kvs.map (·.1) = ks.map kT ∧ Reps K (cut H O) ds (kvs.map (·.2)) := by
  obtain ⟨b, rfl, hb⟩ := rep_key hk
  obtain ⟨q, kvs, rfl, h1, h2, h3⟩ := dct_rd hd
  exact ⟨q, kvs, rfl, .inr ⟨kvs, kT k, b, h1, rfl, cut_ex _ _ hb, rfl⟩, h2, h3⟩
theorem vb2 {K : PySem.W.Frag} {O : List Addr} {d1 d2 : D} {G : List Sl} {S : List (Option V)} {H : Hp} {v w : V} (W : WfO K H0 Oc O (.bw d2 :: .va d1 :: G) (some w :: some v :: S) H) : Rep K (cut H O) d1 v ∧ RepB K H (cut H O) d2 w := by
  obtain ⟨w', e, r⟩ := W.head
  cases e
  obtain ⟨v', e2, r2⟩ := W.pop.head
  cases e2
  exact ⟨r2, r⟩
theorem c_inT (hu : X.A.units + 1 < cLine) (k : List Int) (ks : List (List Int)) (ds : List D) : C2 X H0 Oc .In (.va (encT k)) (.bw (dctT ks ds)) (decide (k ∈ ks)) := ⟨_, op_inT hu, fun G S H v w Q ⟨O, W⟩ q => by
  obtain ⟨r1, r2⟩ := vb2 W
  obtain ⟨a, kvs, e, g, h1, h2⟩ := dget_of r1 r2
  refine ⟨a, _, e, g, ?_⟩
  rw [keys_mem h1]
  exact q H ⟨O, W.pop.pop⟩⟩
theorem c_ninT (hu : X.A.units + 1 < cLine) (k : List Int) (ks : List (List Int)) (ds : List D) : C2 X H0 Oc .NotIn (.va (encT k)) (.bw (dctT ks ds)) (!decide (k ∈ ks)) := ⟨_, op_ninT hu, fun G S H v w Q ⟨O, W⟩ q => by
  obtain ⟨r1, r2⟩ := vb2 W
  obtain ⟨a, kvs, e, g, h1, h2⟩ := dget_of r1 r2
  refine ⟨a, _, e, g, ?_⟩
  rw [keys_mem h1]
  exact q H ⟨O, W.pop.pop⟩⟩
/-- d[k], there -/
theorem ev_dget {k : List Int} {ks : List (List Int)} (hu : X.A.units + 1 < cLine) (ha : Ev X H0 Oc Γ a (.bw (dctT ks ds))) (hb : Ev X H0 Oc Γ b (.va (encT k))) (hd : atD ks ds k = some d) (hs : NoSl b := by exact fun _ _ => rfl) : Ev X H0 Oc Γ (.Subscript a b pos) (.va d) := fun Δ τ σ H Q hl W q => by
  refine wpE.of (pe_dget hu pe_wp pe_wp hs) (ha Δ τ σ H _ hl W fun v H1 W1 => ?_)
  refine hb (.bw (dctT ks ds) :: Δ) (some v :: τ) σ H1 _ (by simp [hl]) W1 fun u H2 ⟨O, W2⟩ => ?_
  obtain ⟨u', e1, r1⟩ := W2.head
  cases e1
  obtain ⟨v', e2, r2⟩ := W2.pop.head
  cases e2
  obtain ⟨q0, kvs, e, g, h1, h2⟩ := dget_of r1 r2
  obtain ⟨z, hz, rz⟩ := at_rep h1 h2 hd
  rw [hz] at g
  exact ⟨q0, z, e, g, q z H2 ⟨O, W2.pop.pop.push ⟨z, rfl, rz⟩ fun _ y => nomatch y⟩⟩
/-- d[k] = e, a new key -/
theorem d_dput {k : List Int} {ks : List (List Int)} (n : Nat) (hu : X.A.units + 1 < cLine) (he : Ev X H0 Oc Γ e (.va d)) (hi : Ev X H0 Oc Γ ie (.va (encT k))) (hk : k ∉ ks) (hn : ds.length ≤ 1000000) (hr : Sds X W H0 Oc (Γ.set n (.ow (dctT (ks ++ [k]) (ds ++ [d])))) rest out)
    (h : Γ[n]? = some (.ow (dctT ks ds)) := by rfl) (hst : stab Γ = true := by rfl)
    (hN : X.N[n]? = some x := by rfl) (hv : Vis X.env.scope x := by first | exact .inl rfl | exact .inr (.inl rfl) | exact .inr (.inr rfl)) (hd : (x == ("__debug__" : Str)) = false := by rfl) (hcd : (x == ("__classdict__" : Str)) = false := by rfl)
    (hs : swapsWith e (some (.Subscript (.Name x p) ie tp)) pos.line X.env = pure false := by rfl) : Sds X W H0 Oc Γ (.Assign [.Subscript (.Name x p) ie tp] e pos :: rest) out := fun Δ τ σ H D hl st w k0 => by
  refine wpSs.of (pss_cons (ps_dput hu (pe_var hN hv hd hcd) pe_wp pe_wp hs) pss_wp) ?_
  refine he Δ τ σ H _ hl w fun v H1 ⟨O1, w1⟩ => ?_
  obtain ⟨y, hy, pp, oo, rfl, g2, g3, g4, g5⟩ := slot_of hl w1.pop h
  refine ⟨.ref pp, hy, ?_⟩
  refine hi (.va d :: Δ) (some v :: τ) σ H1 _ (by simp [hl]) ⟨O1, w1⟩ fun iv H2 ⟨O2, w2⟩ => ?_
  obtain ⟨iv', e1, r1⟩ := w2.head
  cases e1
  obtain ⟨y', hy', q, u, e1, k2, k3, k4, k5⟩ := slot_of hl w2.pop.pop h
  rw [hy] at hy'
  cases hy'
  cases e1
  obtain ⟨v', e2, rv⟩ := w2.pop.head
  cases e2
  cases u <;> first | exact k5.elim | skip
  rename_i kvs
  have k5' : RepH X.K (cut H2 O2) (Y.D.dT (ks.map kT) ds) pp (HO.dT kvs) := k5
  unfold RepH at k5'
  obtain ⟨k5, k6⟩ := k5'
  obtain ⟨b0, rfl, hb0⟩ := rep_key r1
  have lk : kvs.length = ds.length := by have := k6.len; rwa [List.length_map] at this
  have new : valV kvs (kT k) = none := by
    have := keys_mem k5 k
    rw [decide_eq_false hk] at this
    cases z : valV kvs (kT k) with
    | none => rfl
    | some v => rw [z] at this; cases this
  have ep : putK kvs (kT k) v = kvs ++ [(kT k, v)] := by
    unfold putK
    rw [valV_any, new]
    rfl
  refine ⟨pp, _, rfl, .t k4 (cut_ex _ _ hb0) (by rw [lk, sizeLine_eq]; omega), ?_⟩
  rw [ep]
  exact hr Δ τ σ _ D hl st ⟨O2, w2.pop.pop.mutN hl st hst h hy (o' := .dT (kvs ++ [(kT k, v)])) (d' := dctT (ks ++ [k]) (ds ++ [d])) ⟨by rw [List.map_append, List.map_append, k5]; rfl, by rw [List.map_append]; exact Reps.app k6 (Reps.one rv)⟩⟩ k0
/-- list(d): the keys -/
theorem keys_rep {K : PySem.W.Frag} {H : Hp} {O : List Addr} : ∀ {kvs : List (List Key × V)} {ks : List (List Int)} {bs : List Addr}, kvs.map (·.1) = ks.map kT → IsKeys H kvs bs → Reps K (cut H O) (ks.map encT) (bs.map V.ref)
  | [], [], _, _, h => by cases h; exact rfl
  | [], _ :: _, _, h, _ => by cases h
  | _ :: _, [], _, h, _ => by cases h
  | p :: kvs, a :: ks, _, h, hb => by
    cases hb with
    | cons b1 b2 =>
      obtain ⟨h1, h2⟩ := List.cons.inj h
      have h1 : p.1 = kT a := h1
      rw [h1, kT_vs] at b1
      exact ⟨_, _, rfl, ⟨_, _, rfl, cut_iff.mpr ⟨b1, .inr ⟨_, rfl⟩⟩, Reps.of_ints⟩, keys_rep h2 b2⟩
theorem e_listT {ks : List (List Int)} (hm : X.mg "list" = none) (hc : X.calm = true) (ha : Ev X H0 Oc Γ a (.bw (dctT ks ds))) (hg : Gl X "list" := by rfl) (he : starEach [a] X.env = (false, eval a X.env) :: starEach [] X.env := by rfl) (hpl : (backTo pos (starEach [] X.env)).any (·.1) = false := by rfl) :
    Ev X H0 Oc Γ (.Call (.Name "list" p) [a] [] pos) (.ow (.lst (ks.map encT))) := ev_t1 (call_list_dT hc) ha hm (by decide +kernel) hg (fun G S H v Q ⟨O, W⟩ q => by
      obtain ⟨u, g1, h⟩ := W.head
      cases g1
      obtain ⟨a0, kvs, rfl, h1, h2, _⟩ := dct_rd h
      exact ⟨a0, kvs, rfl, h1, fun pp bs hp hb => q _ _ ⟨_, W.pop.newLst hp (keys_rep h2 hb)⟩⟩) (by decide) (by decide) he hpl
end
end Y

namespace Y
open PySem L2
/-! ## own objects that no name holds: they stand among the slots ahead of the names -/
section
variable {K : PySem.W.Frag} {H0 H H' : Hp} {O Oc : List Addr} {G : List Sl} {S : List (Option V)} {d d' : D}
theorem WfO.ghosts : ∀ (gs : List (Addr × D)) {H' : Hp}, WfO K H0 Oc O G S H → Ex H H' → (gs.map (·.1)).Nodup → (∀ g ∈ gs, H g.1 = none ∧ ∃ o, H' g.1 = some o ∧ ∀ Hc, RepH K Hc g.2 g.1 o) → ∃ O', WfO K H0 Oc O' (gs.map (fun g => .ow g.2) ++ G) (gs.map (fun g => some (.ref g.1)) ++ S) H'
  | [], H', W, e, _, _ => ⟨O, W.grow e⟩
  | g :: gs, H', W, e, nd, fr => by
    obtain ⟨hn, o, ho, hr⟩ := fr g List.mem_cons_self
    rw [List.map_cons, List.nodup_cons] at nd
    have e1 : Ex H (less H' g.1) := fun a u q => by
      rw [less_ne (ne_of_none q hn)]
      exact e _ _ q
    obtain ⟨O', W'⟩ := WfO.ghosts gs W e1 nd.2 fun g' hg => by
      obtain ⟨h1, o', h2, h3⟩ := fr g' (List.mem_cons_of_mem _ hg)
      have ne : g'.1 ≠ g.1 := fun z => nd.1 (z ▸ List.mem_map_of_mem hg)
      exact ⟨h1, o', by rw [less_ne ne]; exact h2, h3⟩
    have e2 : Ex (less H' g.1) H' := fun a u q => by
      by_cases z : a = g.1
      · rw [z, less_same] at q; cases q
      · rw [less_ne z] at q; exact q
    exact ⟨_, W'.pushOw e2 less_same ho (hr _)⟩
theorem WfO.thaw : ∀ (gs : List (Addr × D)) {O : List Addr}, WfO K H0 Oc O (gs.map (fun g => .ow g.2) ++ G) (gs.map (fun g => some (.ref g.1)) ++ S) H → ∃ O', (∀ a ∈ O', a ∈ O) ∧ WfO K H0 Oc O' G S H ∧ ∀ g ∈ gs, Rep K (cut H O') g.2 (.ref g.1)
  | [], O, W => ⟨O, fun _ h => h, W, fun _ h => nomatch h⟩
  | g :: gs, O, W => by
    obtain ⟨O1, s1, W1⟩ := WfO.freezeS W
    obtain ⟨v, e, r⟩ := W1.head
    cases e
    obtain ⟨O2, s2, W2, r2⟩ := WfO.thaw gs W1.pop
    refine ⟨O2, fun a h => s1 a (s2 a h), W2, fun g' hg => ?_⟩
    rcases List.mem_cons.mp hg with rfl | hg
    · exact Rep.mono (cut_sub s2) r
    · exact r2 g' hg
/-- an own object told otherwise -/
theorem WfO.redata {i : Nat} {p : Addr} {o : HO} (W : WfO K H0 Oc O G S H) (h1 : G[i]? = some (.ow d)) (h2 : S[i]? = some (some (.ref p))) (ho : H p = some o) (h : RepH K (cut H O) d' p o) : WfO K H0 Oc O (G.set i (.ow d')) S H := by
  obtain ⟨hO, h0, _, _, _⟩ := W.owner h1 h2
  have hi : i < G.length := (List.getElem?_eq_some_iff.mp h1).1
  have key : ∀ {j : Nat} {d1 : D}, (G.set i (.ow d'))[j]? = some (.ow d1) → ∃ d2, G[j]? = some (.ow d2) := fun {j d1} h => by
    by_cases e : j = i
    · exact ⟨d, by rw [e]; exact h1⟩
    · rw [List.getElem?_set_ne (Ne.symm e)] at h
      exact ⟨d1, h⟩
  refine ⟨W.sub, W.new, W.old, W.live, W.ex, by simpa using W.len, fun j s x h3 h4 => ?_, fun j k q d1 d2 h3 h4 h5 h6 => ?_⟩
  · by_cases e : j = i
    · subst e
      rw [List.getElem?_set_self hi] at h3
      cases h3
      rw [h2] at h4
      cases h4
      exact ⟨p, o, rfl, hO, h0, ho, h⟩
    · rw [List.getElem?_set_ne (Ne.symm e)] at h3
      exact W.ok j s x h3 h4
  · obtain ⟨e1, g1⟩ := key h3
    obtain ⟨e2, g2⟩ := key h5
    exact W.nd j k q e1 e2 g1 h4 g2 h6
theorem Reps.opqs : ∀ {qs : List Addr} {vs : List V}, Reps K H (qs.map fun q => .opq (.ref q)) vs → vs = qs.map V.ref
  | [], _, h => h
  | _ :: _, _, ⟨_, _, h1, h2, h3⟩ => by rw [h1, h2, Reps.opqs h3] <;> rfl
theorem Reps.of_opqs : ∀ {qs : List Addr}, Reps K H (qs.map fun q => .opq (.ref q)) (qs.map V.ref)
  | [] => rfl
  | _ :: _ => ⟨_, _, rfl, rfl, Reps.of_opqs⟩
end
/-- a list of lists of one's own: the outer one's slot, the inner ones' slots -/
def grSl (qs : List Addr) (adj : List (List D)) : List Sl := .ow (.lst (qs.map fun q => .opq (.ref q))) :: adj.map fun l => .ow (.lst l)
def grSt (p : Addr) (qs : List Addr) : List (Option V) := some (.ref p) :: qs.map fun q => some (.ref q)
theorem grSl_stab (qs : List Addr) : ∀ (adj : List (List D)), stab (grSl qs adj) = true := fun adj => by
  unfold grSl stab
  rw [List.all_cons]
  refine Bool.and_eq_true_iff.mpr ⟨rfl, List.all_eq_true.mpr fun s hs => ?_⟩
  obtain ⟨l, _, rfl⟩ := List.mem_map.mp hs
  rfl
theorem grSl_set (qs : List Addr) (adj : List (List D)) (k : Nat) (l : List D) : (grSl qs adj).set (k + 1) (.ow (.lst l)) = grSl qs (adj.set k l) := by
  unfold grSl
  rw [List.set_cons_succ, List.map_set]
section
variable {X : Cx} {W : WX} {H0 : Hp} {Oc : List Addr} {Γ Γ1 : List Sl} {r i e tg iter a : Expr} {rest body : List Stmt} {pos pos' ipos apos cpos epos p1 p2 np lp : Pos} {d : D} {out : Out}
/-- r[i].append(e), r[i] one of such lists -/
theorem wp_gapp {p q : Addr} {qs : List Addr} {k j0 j1 : Nat} {l : List D} {Δ : List Sl} {τ : List (Option V)} {σ : L2.St} {H : Hp} {D' : Ends} (hr : Ev X H0 Oc Γ r (.va (.opq (.ref p)))) (hi : Ev X H0 Oc Γ i (.va (.int (k : Int)))) (he : Ev X H0 Oc Γ e (.va d)) (hst : stab Γ = true)
    (hl : τ.length = Δ.length) (st : stab Δ = true) (g0 : Δ[j0]? = some (.ow (.lst (qs.map fun q => .opq (.ref q))))) (t0 : τ[j0]? = some (some (.ref p))) (hk : qs[k]? = some q) (g1 : Δ[j1]? = some (.ow (.lst l))) (t1 : τ[j1]? = some (some (.ref q))) (hn : l.length ≤ 1000000)
    (w : Wf X.K H0 Oc (Δ ++ Γ) (τ ++ σ) H) (nx : ∀ H', Wf X.K H0 Oc (Δ.set j1 (.ow (.lst (l ++ [d]))) ++ Γ) (τ ++ σ) H' → D'.nx σ H')
    (hpi : PlainIx i)
    (hbase : attributeBase (.Subscript r i ipos) "append" X.env (eval (.Subscript r i ipos) X.env) = eval (.Subscript r i ipos) X.env)
    (hfew : ((backTo cpos (starEach [e] X.env)).all (fun x => !x.1) && (backToKw cpos (keywordEach [] X.env)).all (fun x => x.1.isSome)
      && decide (([e] : List Expr).length + ([] : List Keyword).length + (if ([] : List Keyword).isEmpty then 0 else 1) < 30)) = true)
    (hline : (apos.endLine == cpos.line) = true) (hs : starEach [e] X.env = (false, eval e X.env) :: starEach [] X.env) (hplain : (backTo cpos (starEach [] X.env)).any (·.1) = false)
    (hsw : swapsWith (.Call (.Attribute (.Subscript r i ipos) "append" apos) [e] [] cpos) none epos.line X.env = pure false) :
    wpS X (.Expr (.Call (.Attribute (.Subscript r i ipos) "append" apos) [e] [] cpos) epos) D' σ H := by
  refine wpS.of (ps_expr (pe_bm PySem.F.plainAttrs_list PySem.F.slot_list_append PySem.F.type_list_append mt_append (pe_ix ix_list pe_wp pe_wp hpi) (pa_cons pe_wp pa_nil hs) hbase hfew hline hs hplain) hsw) ?_
  have at0 : ∀ {x : Sl} {j : Nat}, Δ[j]? = some x → (Δ ++ Γ)[j]? = some x := fun {x j} h => by
    rw [List.getElem?_append_left (List.getElem?_eq_some_iff.mp h).1]
    exact h
  have as0 : ∀ {x : Option V} {j : Nat}, τ[j]? = some x → (τ ++ σ)[j]? = some x := fun {x j} h => by
    rw [List.getElem?_append_left (List.getElem?_eq_some_iff.mp h).1]
    exact h
  refine hr Δ τ σ H _ hl w fun v H1 w1 => ?_
  refine hi (.va (.opq (.ref p)) :: Δ) (some v :: τ) σ H1 _ (by simp [hl]) w1 fun u H2 ⟨O2, w2⟩ => ?_
  obtain ⟨u', e1, r1⟩ := w2.head
  cases e1
  obtain ⟨v', e2, r2⟩ := w2.pop.head
  cases e2
  obtain rfl : u = .int (k : Int) := r1
  obtain rfl : v = .ref p := r2
  obtain ⟨_, _, o0, h0, q0⟩ := w2.pop.pop.owner (at0 g0) (as0 t0)
  cases o0 <;> first | exact q0.elim | skip
  rename_i vs0
  have q0 : Reps X.K (cut H2 O2) (qs.map fun q => .opq (.ref q)) vs0 := q0
  have ev := Reps.opqs q0
  subst ev
  refine ⟨p, _, (k : Int), .ref q, rfl, rfl, .of h0, L2.atI_nat (by rw [List.getElem?_map, hk]; rfl), ?_⟩
  obtain ⟨_, _, o1, h1, q1⟩ := w2.pop.pop.owner (at0 g1) (as0 t1)
  refine ⟨?_, ?_⟩
  · cases o1 <;> first
      | exact q1.elim
      | exact .inl ⟨rfl, _, .of h1⟩
  · refine he Δ τ σ H2 _ hl ⟨O2, w2.pop.pop⟩ fun z H3 ⟨O3, w3⟩ => ?_
    obtain ⟨z', e3, r3⟩ := w3.head
    cases e3
    obtain ⟨_, _, o2, h2, q2⟩ := w3.pop.owner (at0 g1) (as0 t1)
    cases o2 <;> first | exact q2.elim | skip
    rename_i vs1
    have q2 : Reps X.K (cut H3 O3) l vs1 := q2
    refine ⟨q, vs1, z, rfl, rfl, h2, by rw [q2.len, sizeLine_eq]; omega, ?_⟩
    have W3 := w3.pop.mut (d' := .lst (l ++ [d])) (o' := .lst (vs1 ++ [z])) (by rw [stab_app, st, hst]; rfl) (at0 g1) (as0 t1) (Reps.app q2 (Reps.one r3))
    rw [List.set_append_left _ _ (List.getElem?_eq_some_iff.mp g1).1] at W3
    exact nx _ ⟨O3, W3⟩
/-- a loop whose turns change such lists -/
theorem wp_gfor {α β : Type} {p : Addr} {qs : List Addr} (xs : List α) (enc : α → D) (vw : β → List (List D)) (step : β → α → β) (adj0 : β) (hp : PassesOwn (model X.prog X.w) X.A X.env X.xe) (hc : X.calm = true) (hi : Ei X H0 Oc Γ tg iter (xs.map enc)) (hq : qs.length = (vw adj0).length)
    (hb : ∀ i x, xs[i]? = some x → ∃ Γ1, Tg X H0 Oc tg Γ (.va (enc x)) Γ1 ∧ Sub Γ1 Γ ∧ ∀ (Δp Δ : List Sl) (τp τ : List (Option V)) (σ : L2.St) (H : Hp) (D : Ends), τp.length = Δp.length → τ.length = Δ.length → stab (Δp ++ (grSl qs (vw ((xs.take i).foldl step adj0)) ++ Δ)) = true →
      Wf X.K H0 Oc ((Δp ++ (grSl qs (vw ((xs.take i).foldl step adj0)) ++ Δ)) ++ Γ1) ((τp ++ (grSt p qs ++ τ)) ++ σ) H → (∀ σ' H', Wf X.K H0 Oc ((Δp ++ (grSl qs (vw ((xs.take (i + 1)).foldl step adj0)) ++ Δ)) ++ Γ1) ((τp ++ (grSt p qs ++ τ)) ++ σ') H' → D.nx σ' H') → wpSs X body D σ H)
    (hlen : ∀ i, (vw ((xs.take i).foldl step adj0)).length = (vw adj0).length)
    (hs : ∀ x, foldedSetIterable iter X.env x = pure x) {Δ : List Sl} {τ : List (Option V)} {σ : L2.St} {H : Hp} {D : Ends} (hl : τ.length = Δ.length) (st : stab Δ = true) (w : Wf X.K H0 Oc ((grSl qs (vw adj0) ++ Δ) ++ Γ) ((grSt p qs ++ τ) ++ σ) H)
    (nx : ∀ σ' H', Wf X.K H0 Oc ((grSl qs (vw (xs.foldl step adj0)) ++ Δ) ++ Γ) ((grSt p qs ++ τ) ++ σ') H' → wpSs X rest D σ' H') : wpSs X (.For tg iter body [] pos :: rest) D σ H := by
  obtain ⟨wi, hpi, hwi⟩ := hi
  have gl : ∀ adj : List (List Y.D), adj.length = (vw adj0).length → (grSt p qs ++ τ).length = (grSl qs adj ++ Δ).length := fun adj h => by
    unfold grSl grSt
    simp [hl, hq, h]
  refine wpSs.of (pss_cons (ps_for hp hc hpi pg_wp pss_wp hs) pss_wp) ?_
  refine hwi (grSl qs (vw adj0) ++ Δ) (grSt p qs ++ τ) σ H _ (gl _ rfl) w fun J Δh τh H1 ok harg w1 => ?_
  have ok := ok H0 Oc
  have st2 : ∀ adj : List (List Y.D), stab (Δh ++ (grSl qs adj ++ Δ)) = true := fun adj => by rw [stab_app, ok.st, stab_app, grSl_stab, st]; rfl
  refine ⟨fun i m σ H => m = xs.length - i ∧ i ≤ xs.length ∧ Wf X.K H0 Oc (Δh ++ ((grSl qs (vw ((xs.take i).foldl step adj0)) ++ Δ) ++ Γ)) (τh ++ ((grSt p qs ++ τ) ++ σ)) H, ⟨xs.length, by simp, Nat.zero_le _, w1⟩, ?_⟩
  rintro i m σ1 H2 ⟨rfl, hi, w2⟩
  by_cases hlt : i < xs.length
  · obtain ⟨g1, g2⟩ := ok.go i [] _ [] _ H2 rfl (by rw [List.length_map]; exact hlt) w2
    have hx : xs[i]? = some xs[i] := List.getElem?_eq_getElem hlt
    obtain ⟨Γ1, t1, s1, b1⟩ := hb i _ hx
    refine .inr ⟨g1, fun σ' H' => Wf X.K H0 Oc (Δh ++ ((grSl qs (vw ((xs.take (i + 1)).foldl step adj0)) ++ Δ) ++ Γ)) (τh ++ ((grSt p qs ++ τ) ++ σ')) H', fun σ' H' q => ⟨xs.length - (i + 1), by omega, rfl, hlt, q⟩, fun x H' y => ?_⟩
    obtain ⟨d, hd, w3⟩ := g2 x H' y
    rw [List.getElem?_map, hx] at hd
    cases hd
    rw [List.nil_append, List.nil_append, ← List.append_assoc Δh, ← List.append_assoc τh] at w3
    have l2 : (τh ++ (grSt p qs ++ τ)).length = (Δh ++ (grSl qs (vw ((xs.take i).foldl step adj0)) ++ Δ)).length := by
      have q := gl _ (hlen i)
      rw [List.length_append (as := τh), List.length_append (as := Δh), ok.len, q]
    refine t1 (Δh ++ (grSl qs (vw ((xs.take i).foldl step adj0)) ++ Δ)) (τh ++ (grSt p qs ++ τ)) σ1 H' x _ l2 (st2 _) w3 fun σ2 H3 w4 => ?_
    refine b1 Δh Δ τh τ σ2 H3 _ ok.len hl (st2 _) w4 fun σ' H' w' => ?_
    have w'' := w'.sub s1.app
    rw [List.append_assoc Δh, List.append_assoc τh] at w''
    exact w''
  · have e : i = xs.length := by omega
    subst e
    refine .inl ⟨ok.stop _ [] _ [] _ H2 rfl (by rw [List.length_map]; exact Nat.le_refl _) w2, nx σ1 H2 ?_⟩
    rw [List.take_length] at w2
    obtain ⟨O, w2⟩ := w2
    exact ⟨O, w2.drop ok.len⟩
end
end Y

namespace Y
open PySem L2
/-! ## [[] for u in range(a)] -/
section
variable {X : Cx} {W : WX} {H0 : Hp} {Oc : List Addr} {Γ Γ1 : List Sl} {tg a : Expr} {pos p1 p2 lp : Pos} {scope : Scope} {u : Str}
theorem fst_all (d : Y.D) : ∀ qs : List Addr, (qs.map fun q => (q, d)).map (·.1) = qs
  | [] => rfl
  | q :: qs => congrArg (q :: ·) (fst_all d qs)
theorem rep_all : ∀ qs : List Addr, (List.replicate qs.length ([] : List Y.D)).map (fun l => Sl.ow (.lst l)) = (qs.map fun q => (q, Y.D.lst [])).map fun g : Addr × Y.D => Sl.ow g.2
  | [] => rfl
  | q :: qs => congrArg (Sl.ow (.lst []) :: ·) (rep_all qs)
theorem wp_empties {n ix : Nat} (hc : X.calm = true) (hN : X.N.Nodup) (ok : BlkOk X.N X.env.scope scope [(u, ix)]) (hm : X.mg "range" = none) (hgr : Gl X "range") (ha : Ev X H0 Oc Γ a (.va (.int (n : Int)))) (hn : n ≤ 1000000)
    (hg : ∀ s0 H00 C cl fp, PG (blkX X scope s0 H00 C cl fp) tg (gName ix)) (hs1 : starEach [a] X.env = [(false, eval a X.env)]) (hs2 : starEach [a] X.env = (false, eval a X.env) :: starEach [] X.env)
    (hs : ∀ x, foldedSetIterable (.Call (.Name "range" p1) [a] [] p2) X.env x = pure x) {Δ : List Sl} {τ : List (Option V)} {σ : L2.St} {H : Hp} {Q : VK} (hl : τ.length = Δ.length) (w : Wf X.K H0 Oc (Δ ++ Γ) (τ ++ σ) H)
    (k : ∀ p qs H', qs.length = n → Wf X.K H0 Oc (grSl qs (List.replicate n []) ++ (Δ ++ Γ)) (grSt p qs ++ (τ ++ σ)) H' → Q (.ref p) H') : wpE X (.ListComp (.List [] lp) [⟨tg, .Call (.Name "range" p1) [a] [] p2, [], 0⟩] scope pos) σ H Q := by
  refine wpE.of (pe_lc (g := gName ix) hc hN (pi_range1 hgr hm (pa_cons pe_wp pa_nil hs2) hs1) ok (fun s0 H00 C cl fp => hg s0 H00 C cl fp) (fun _ _ _ _ _ => pts_nil) (fun _ _ _ _ _ => pe_lst pa_nil) hs) ?_
  refine ha Δ τ σ H _ hl w fun v H1 ⟨O, w1⟩ => ?_
  obtain ⟨v', e1, r1⟩ := w1.head
  cases e1
  obtain rfl : v = .int (n : Int) := r1
  refine ⟨(n : Int), rfl, by omega, by omega, fun D hD => ?_⟩
  refine ⟨fun i m H2 => m = n - i ∧ i ≤ n ∧ ∃ qs : List Addr, qs.length = i ∧ (D :: qs).Nodup ∧ (∀ q ∈ qs, H1 q = none ∧ H2 q = some (.lst [])) ∧ H2 D = some (.lst (qs.map V.ref)) ∧ Ex H1 H2, ⟨n, by simp, Nat.zero_le _, [], rfl, by simp, (fun q hq => nomatch hq), upd_same, Ex.new hD⟩, ?_⟩
  rintro i m H2 ⟨rfl, hi, qs, hq, nd, hqs, hDq, ex⟩
  by_cases hlt : i < n
  · refine .inr ⟨hlt, fun H' => i + 1 ≤ n ∧ ∃ qs : List Addr, qs.length = i + 1 ∧ (D :: qs).Nodup ∧ (∀ q ∈ qs, H1 q = none ∧ H' q = some (.lst [])) ∧ H' D = some (.lst (qs.map V.ref)) ∧ Ex H1 H', fun H' z => ⟨n - (i + 1), by omega, rfl, z⟩, fun x H' y => ?_⟩
    obtain ⟨eH, _⟩ := y
    subst eH
    refine ⟨(wipe_set List.mem_cons_self).trans wipe_wipe, ?_⟩
    simp only [tYes, if_true]
    refine ⟨by show 0 ≤ _; exact Nat.zero_le _, fun q hqn => ?_⟩
    have neD : D ≠ q := ne_of_none hDq hqn
    refine ⟨qs.map V.ref, (upd_ne neD).trans hDq, by rw [List.length_map, hq, sizeLine_eq]; omega, hlt, qs ++ [q], by rw [List.length_append, hq]; rfl, ?_, ?_, ?_, ?_⟩
    · rw [← List.cons_append, List.nodup_append]
      refine ⟨nd, by simp, fun b hb c hc => ?_⟩
      rw [List.mem_singleton.mp hc]
      rcases List.mem_cons.mp hb with rfl | hb
      · exact neD
      · exact ne_of_none (hqs b hb).2 hqn
    · intro b hb
      have nb : b ≠ D := by
        rcases List.mem_append.mp hb with hb | hb
        · exact fun z => (List.nodup_cons.mp nd).1 (z ▸ hb)
        · rw [List.mem_singleton.mp hb]; exact neD.symm
      rw [upd_ne nb]
      rcases List.mem_append.mp hb with hb | hb
      · exact ⟨(hqs b hb).1, (upd_ne (ne_of_none (hqs b hb).2 hqn)).trans (hqs b hb).2⟩
      · rw [List.mem_singleton.mp hb]
        refine ⟨?_, upd_same⟩
        cases z : H1 q with
        | none => rfl
        | some o => rw [ex _ _ z] at hqn; cases hqn
    · rw [upd_same, List.map_append] <;> rfl
    · intro b o hb
      have e1 := ex _ _ hb
      have nb : b ≠ D := fun z => by rw [z, hD] at hb; cases hb
      rw [upd_ne nb, upd_ne (ne_of_none e1 hqn)]
      exact e1
  · have e : i = n := by omega
    subst e
    refine .inl ⟨by show (i : Int).toNat ≤ i; omega, ?_⟩
    obtain ⟨O', W'⟩ := w1.pop.ghosts ((D, .lst (qs.map fun q => .opq (.ref q))) :: qs.map fun q => (q, .lst [])) ex (by rw [List.map_cons, fst_all]; exact nd) (fun g hg => by
      rcases List.mem_cons.mp hg with rfl | hg
      · exact ⟨hD, _, hDq, fun Hc => Reps.of_opqs⟩
      · obtain ⟨q, hq', rfl⟩ := List.mem_map.mp hg
        exact ⟨(hqs q hq').1, _, (hqs q hq').2, fun Hc => Reps.nil (K := X.K) (H := Hc)⟩)
    refine k D qs H2 hq ⟨O', ?_⟩
    have e1 : grSl qs (List.replicate i []) = (((D, Y.D.lst (qs.map fun q => .opq (.ref q))) :: qs.map fun q => (q, Y.D.lst [])).map fun g : Addr × Y.D => Sl.ow g.2) := by
      unfold grSl
      rw [List.map_cons, ← hq, rep_all]
    have e2 : grSt D qs = (((D, Y.D.lst (qs.map fun q => .opq (.ref q))) :: qs.map fun q => (q, Y.D.lst [])).map fun g : Addr × Y.D => some (V.ref g.1)) := by
      unfold grSt
      rw [List.map_cons, List.map_map]
      rfl
    rw [e1, e2]
    exact W'
end
end Y

namespace Y
open PySem L2
theorem Reps.split {K : PySem.W.Frag} {H : Hp} : ∀ {ds es : List D} {vs : List V}, Reps K H (ds ++ es) vs → ∃ us ws, vs = us ++ ws ∧ Reps K H ds us ∧ Reps K H es ws
  | [], es, vs, h => ⟨[], vs, rfl, rfl, h⟩
  | d :: ds, es, _, ⟨v, us, h1, h2, h3⟩ => by
    obtain ⟨us', ws, e, r1, r2⟩ := Reps.split h3
    exact ⟨v :: us', ws, by rw [h1, e] <;> rfl, ⟨v, us', rfl, h2, r1⟩, r2⟩
/-- one tie more -/
def stepG (adj : List (List Int)) (x : Nat × Nat) : List (List Int) :=
  (adj.set x.1 (adj.getD x.1 [] ++ [(x.2 : Int)])).set x.2 ((adj.set x.1 (adj.getD x.1 [] ++ [(x.2 : Int)])).getD x.2 [] ++ [(x.1 : Int)])
theorem stepG_len (adj : List (List Int)) (x : Nat × Nat) : (stepG adj x).length = adj.length := by unfold stepG; rw [List.length_set, List.length_set]
theorem foldG_len : ∀ (xs : List (Nat × Nat)) (adj : List (List Int)), (xs.foldl stepG adj).length = adj.length
  | [], _ => rfl
  | x :: xs, adj => by rw [List.foldl_cons, foldG_len xs, stepG_len]
theorem stepG_max (adj : List (List Int)) (x : Nat × Nat) (B : Nat) (h : ∀ l ∈ adj, l.length ≤ B) : ∀ l ∈ stepG adj x, l.length ≤ B + 2 := by
  have g : ∀ (a : List (List Int)) (k : Nat) (B : Nat), (∀ l ∈ a, l.length ≤ B) → (a.getD k []).length ≤ B := fun a k B h => by
    rw [List.getD_eq_getElem?_getD]
    cases e : a[k]? with
    | none => exact Nat.zero_le _
    | some l => exact h l (List.mem_of_getElem? e)
  have s : ∀ (a : List (List Int)) (k : Nat) (y : Int) (B : Nat), (∀ l ∈ a, l.length ≤ B) → ∀ l ∈ a.set k (a.getD k [] ++ [y]), l.length ≤ B + 1 := fun a k y B h l hl => by
    rcases List.mem_or_eq_of_mem_set hl with hl | rfl
    · exact Nat.le_succ_of_le (h l hl)
    · rw [List.length_append]
      exact Nat.succ_le_succ (g a k B h)
  exact s _ _ _ _ (s _ _ _ _ h)
theorem foldG_max : ∀ (xs : List (Nat × Nat)) (adj : List (List Int)) (B : Nat), (∀ l ∈ adj, l.length ≤ B) → ∀ l ∈ xs.foldl stepG adj, l.length ≤ B + 2 * xs.length
  | [], _, _, h => h
  | x :: xs, adj, B, h => by
    intro l hl
    have := foldG_max xs (stepG adj x) (B + 2) (stepG_max adj x B h) l hl
    rw [List.length_cons]
    omega
def vwG (adj : List (List Int)) : List (List D) := adj.map fun l => l.map .int
theorem vwG_at {adj : List (List Int)} {k : Nat} (h : k < adj.length) : (vwG adj)[k]? = some ((adj.getD k []).map .int) := by
  unfold vwG
  rw [List.getElem?_map, List.getElem?_eq_getElem h, List.getD_eq_getElem?_getD, List.getElem?_eq_getElem h]
  rfl
theorem vwG_set (adj : List (List Int)) (k : Nat) (y : Int) : (vwG adj).set k ((adj.getD k []).map .int ++ [.int y]) = vwG (adj.set k (adj.getD k [] ++ [y])) := by
  unfold vwG
  rw [List.map_set, List.map_append]
  rfl
theorem gr_maps : ∀ (qs : List Addr) (adj : List (List D)), qs.length = adj.length → adj.map (fun l => Sl.ow (.lst l)) = ((qs.zip adj).map fun z => (z.1, Y.D.lst z.2)).map (fun g : Addr × Y.D => Sl.ow g.2) ∧ qs.map (fun q => some (V.ref q)) = ((qs.zip adj).map fun z => (z.1, Y.D.lst z.2)).map (fun g : Addr × Y.D => some (V.ref g.1))
  | [], [], _ => ⟨rfl, rfl⟩
  | [], _ :: _, h => by cases h
  | _ :: _, [], h => by cases h
  | q :: qs, l :: adj, h => by
    obtain ⟨h1, h2⟩ := gr_maps qs adj (by simpa using h)
    exact ⟨congrArg (Sl.ow (.lst l) :: ·) h1, congrArg (some (V.ref q) :: ·) h2⟩
theorem gr_reps {K : PySem.W.Frag} {H : Hp} : ∀ (qs : List Addr) (adj : List (List D)), qs.length = adj.length → (∀ g ∈ (qs.zip adj).map fun z => (z.1, Y.D.lst z.2), Rep K H g.2 (.ref g.1)) → Reps K H (adj.map .lst) (qs.map V.ref)
  | [], [], _, _ => rfl
  | [], _ :: _, h, _ => by cases h
  | _ :: _, [], h, _ => by cases h
  | q :: qs, l :: adj, h, r => ⟨_, _, rfl, r (q, .lst l) List.mem_cons_self, gr_reps qs adj (by simpa using h) fun g hg => r g (List.mem_cons_of_mem _ hg)⟩
theorem put_put {d : D} {C : Addr} {ns n1 n2 : List Str} {ds d1 d2 : List D} (h : d.own = some (C, ns, ds)) : (d.put n1 d1).own = some (C, n1, d1) ∧ (d.put n1 d1).put n2 d2 = d.put n2 d2 := by
  cases d <;> first
    | (cases h; done)
    | (cases h; exact ⟨rfl, rfl⟩)
section
variable {X : Cx} {W : WX} {H0 : Hp} {Oc : List Addr} {Γ : List Sl} {tg iter a r1 i1 e1 r2 i2 e2 : Expr} {rest : List Stmt} {pos pos' pp p1 p2 p5 lp q1 q2 q3 q4 s1 s2 s3 s4 : Pos} {scope : Scope} {u x f : Str} {out : Out} {d : D} {C : Addr} {ns : List Str} {ds : List D}
/-- self.f = [[] for u in range(a)]; for tg in iter: r1[i1].append(e1); r2[i2].append(e2) -/
theorem sds_grid {m ix : Nat} (n : Nat) (xs : List (Nat × Nat)) (enc : Nat × Nat → D) (h : Γ[n]? = some (.ow d)) (ho : d.own = some (C, ns, ds)) (hst : stab Γ = true) (cl : Cls X.K C) (na : NoAttr X.K C f) (hf : f ∉ ns) (hlen : ns.length < 1000)
    (hN : X.N[n]? = some x) (hv : Vis X.env.scope x) (hd : (x == ("__debug__" : Str)) = false) (hcd : (x == ("__classdict__" : Str)) = false)
    (hp : PassesOwn (model X.prog X.w) X.A X.env X.xe) (hc : X.calm = true) (hNd : X.N.Nodup) (ok : BlkOk X.N X.env.scope scope [(u, ix)]) (hm : X.mg "range" = none) (hgr : Gl X "range") (ha : Ev X H0 Oc Γ a (.va (.int (m : Int)))) (hm1 : m ≤ 1000000) (hxs : xs.length ≤ 400000) (hx1 : ∀ y ∈ xs, y.1 < m ∧ y.2 < m)
    {tg0 : Expr} (hg : ∀ s0 H00 C cl fp, PG (blkX X scope s0 H00 C cl fp) tg0 (gName ix)) (hs1 : starEach [a] X.env = [(false, eval a X.env)]) (hs2 : starEach [a] X.env = (false, eval a X.env) :: starEach [] X.env)
    (hfs : ∀ x, foldedSetIterable (.Call (.Name "range" p1) [a] [] p2) X.env x = pure x) (hfs2 : ∀ x, foldedSetIterable iter X.env x = pure x)
    (hsw : swapsWith (.ListComp (.List [] lp) [⟨tg0, .Call (.Name "range" p1) [a] [] p2, [], 0⟩] scope pos) (some (.Attribute (.Name x p5) f pp)) pos'.line X.env = pure false)
    (hi : ∀ w, Ei X H0 Oc (Γ.set n (.ow (d.put (ns ++ [f]) (ds ++ [w])))) tg iter (xs.map enc))
    (hb : ∀ w y, y ∈ xs → ∃ Γ1, Tg X H0 Oc tg (Γ.set n (.ow (d.put (ns ++ [f]) (ds ++ [w])))) (.va (enc y)) Γ1 ∧ Sub Γ1 (Γ.set n (.ow (d.put (ns ++ [f]) (ds ++ [w])))) ∧ stab Γ1 = true ∧
      Ev X H0 Oc Γ1 r1 (.va w) ∧ Ev X H0 Oc Γ1 i1 (.va (.int (y.1 : Int))) ∧ Ev X H0 Oc Γ1 e1 (.va (.int (y.2 : Int))) ∧ Ev X H0 Oc Γ1 r2 (.va w) ∧ Ev X H0 Oc Γ1 i2 (.va (.int (y.2 : Int))) ∧ Ev X H0 Oc Γ1 e2 (.va (.int (y.1 : Int))))
    (k1 : ∀ {D' : Ends} {σ : L2.St} {H : Hp} {p q : Addr} {qs : List Addr} {k j0 j1 : Nat} {l : List D} {Δ : List Sl} {τ : List (Option V)} {Γ1 : List Sl} {d : D}, Ev X H0 Oc Γ1 r1 (.va (.opq (.ref p))) → Ev X H0 Oc Γ1 i1 (.va (.int (k : Int))) → Ev X H0 Oc Γ1 e1 (.va d) → stab Γ1 = true → τ.length = Δ.length → stab Δ = true → Δ[j0]? = some (.ow (.lst (qs.map fun q => .opq (.ref q)))) → τ[j0]? = some (some (.ref p)) → qs[k]? = some q → Δ[j1]? = some (.ow (.lst l)) → τ[j1]? = some (some (.ref q)) → l.length ≤ 1000000 →
      Wf X.K H0 Oc (Δ ++ Γ1) (τ ++ σ) H → (∀ H', Wf X.K H0 Oc (Δ.set j1 (.ow (.lst (l ++ [d]))) ++ Γ1) (τ ++ σ) H' → D'.nx σ H') → wpS X (.Expr (.Call (.Attribute (.Subscript r1 i1 q1) "append" q2) [e1] [] q3) q4) D' σ H)
    (k2 : ∀ {D' : Ends} {σ : L2.St} {H : Hp} {p q : Addr} {qs : List Addr} {k j0 j1 : Nat} {l : List D} {Δ : List Sl} {τ : List (Option V)} {Γ1 : List Sl} {d : D}, Ev X H0 Oc Γ1 r2 (.va (.opq (.ref p))) → Ev X H0 Oc Γ1 i2 (.va (.int (k : Int))) → Ev X H0 Oc Γ1 e2 (.va d) → stab Γ1 = true → τ.length = Δ.length → stab Δ = true → Δ[j0]? = some (.ow (.lst (qs.map fun q => .opq (.ref q)))) → τ[j0]? = some (some (.ref p)) → qs[k]? = some q → Δ[j1]? = some (.ow (.lst l)) → τ[j1]? = some (some (.ref q)) → l.length ≤ 1000000 →
      Wf X.K H0 Oc (Δ ++ Γ1) (τ ++ σ) H → (∀ H', Wf X.K H0 Oc (Δ.set j1 (.ow (.lst (l ++ [d]))) ++ Γ1) (τ ++ σ) H' → D'.nx σ H') → wpS X (.Expr (.Call (.Attribute (.Subscript r2 i2 s1) "append" s2) [e2] [] s3) s4) D' σ H)
    (hr : Sds X W H0 Oc (Γ.set n (.ow (d.put (ns ++ [f]) (ds ++ [.lst ((xs.foldl stepG (List.replicate m [])).map fun l => .lst (l.map .int))])))) rest out) :
    Sds X W H0 Oc Γ (.Assign [.Attribute (.Name x p5) f pp] (.ListComp (.List [] lp) [⟨tg0, .Call (.Name "range" p1) [a] [] p2, [], 0⟩] scope pos) pos' :: .For tg iter [.Expr (.Call (.Attribute (.Subscript r1 i1 q1) "append" q2) [e1] [] q3) q4, .Expr (.Call (.Attribute (.Subscript r2 i2 s1) "append" s2) [e2] [] s3) s4] [] q5 :: rest) out := fun Δ τ σ H D' hl st w k => by
  refine wpSs.of (pss_cons (ps_fld (pe_var hN hv hd hcd) pe_wp hsw) pss_wp) ?_
  refine wp_empties hc hNd ok hm hgr ha hm1 hg hs1 hs2 hfs hl w fun p qs H1 hq ⟨O1, w1⟩ => ?_
  rw [← List.append_assoc, ← List.append_assoc] at w1
  have gl : ∀ adj : List (List Int), adj.length = m → (grSt p qs ++ τ).length = (grSl qs (vwG adj) ++ Δ).length := fun adj e => by
    unfold grSl grSt vwG
    simp [hl, hq, e]
  have e0 : List.replicate m ([] : List Y.D) = vwG (List.replicate m []) := by unfold vwG; rw [List.map_replicate]; rfl
  rw [e0] at w1
  have l0 := gl (List.replicate m []) (List.length_replicate ..)
  have stg : ∀ adj, stab (grSl qs adj ++ Δ) = true := fun adj => by rw [stab_app, grSl_stab, st]; rfl
  obtain ⟨yy, hy, pa, oo, rfl, g2, g3, g4, g5⟩ := slot_of l0 w1 h
  obtain ⟨dx, fs, rfl, z1, z2, z3⟩ := RepH.own (ds1 := ds ++ [.opq (.ref p)]) g5 ho
  refine ⟨.ref pa, hy, pa, C, dx, fs, rfl, g4, cl, na, ?_, ?_⟩
  · have : fs.length = ns.length := by rw [← z1, List.length_map]
    omega
  subst z1
  have z4 := z3 dx (fs ++ [(f, .ref p)]) (by rw [List.map_append]; exact z2.app (Reps.one (show Rep X.K _ (.opq (.ref p)) (.ref p) from rfl)))
  rw [List.map_append] at z4
  rw [putF_new hf]
  have w2 := w1.mutN l0 (stg _) hst h hy z4
  have len0 : ∀ i, ((xs.take i).foldl stepG (List.replicate m [])).length = m := fun i => by rw [foldG_len, List.length_replicate]
  refine wp_gfor (p := p) (qs := qs) xs enc vwG stepG (List.replicate m []) hp hc (hi (.opq (.ref p))) (by unfold vwG; rw [List.length_map, List.length_replicate]; exact hq) ?_ (fun i => by unfold vwG; rw [List.length_map, List.length_map, len0, List.length_replicate]) hfs2 hl st ⟨O1, w2⟩ ?_
  · intro i y hy'
    have hin := List.mem_of_getElem? hy'
    obtain ⟨b1, b2⟩ := hx1 y hin
    obtain ⟨Γ1, t1, t2, t3, v1, v2, v3, v4, v5, v6⟩ := hb (.opq (.ref p)) y hin
    refine ⟨Γ1, t1, t2, fun Δp Δ τp τ σ H D hlp hl' sts w' nx => ?_⟩
    have stp : ∀ adj, stab (Δp ++ (grSl qs adj ++ Δ)) = true := fun adj => by
      rw [stab_app, stab_app] at sts ⊢
      rw [grSl_stab] at sts ⊢
      exact sts
    have step1 : (xs.take (i + 1)).foldl stepG (List.replicate m []) = stepG ((xs.take i).foldl stepG (List.replicate m [])) y := by
      rw [List.take_add_one, hy', List.foldl_append]
      rfl
    rw [step1] at nx
    have la := len0 i
    have mx := foldG_max (xs.take i) (List.replicate m []) 0 (fun l hl => by rw [(List.mem_replicate.mp hl).2]; exact Nat.le_refl _)
    have mx2 : (xs.take i).length ≤ 400000 := by rw [List.length_take]; omega
    generalize (xs.take i).foldl stepG (List.replicate m []) = adj at w' nx la mx
    have gm : ∀ (a : List (List Int)) (B : Nat), (∀ l ∈ a, l.length ≤ B) → ∀ k : Nat, (a.getD k []).length ≤ B := fun a B hh k => by
      rw [List.getD_eq_getElem?_getD]
      cases e : a[k]? with
      | none => exact Nat.zero_le _
      | some l => exact hh l (List.mem_of_getElem? e)
    have ll : ∀ a : List (List Int), a.length = m → (τp ++ (grSt p qs ++ τ)).length = (Δp ++ (grSl qs (vwG a) ++ Δ)).length := fun a e => by
      unfold grSl grSt vwG
      simp [hlp, hl', hq, e]
    have at0 : ∀ a : List (List Int), (Δp ++ (grSl qs (vwG a) ++ Δ))[Δp.length]? = some (.ow (.lst (qs.map fun q => .opq (.ref q)))) := fun a => by
      rw [List.getElem?_append_right (Nat.le_refl _), Nat.sub_self]
      rfl
    have st0 : (τp ++ (grSt p qs ++ τ))[Δp.length]? = some (some (.ref p)) := by
      rw [List.getElem?_append_right (by omega), hlp, Nat.sub_self]
      rfl
    have atk : ∀ (a : List (List Int)) (k : Nat), a.length = m → k < m → (Δp ++ (grSl qs (vwG a) ++ Δ))[Δp.length + (k + 1)]? = some (.ow (.lst ((a.getD k []).map .int))) := fun a k e hk => by
      rw [List.getElem?_append_right (by omega), show Δp.length + (k + 1) - Δp.length = k + 1 by omega, List.getElem?_append_left (by unfold grSl vwG; simp [e, hk])]
      unfold grSl
      rw [List.getElem?_cons_succ, List.getElem?_map, vwG_at (by omega)]
      rfl
    have qk : ∀ k, k < m → ∃ q, qs[k]? = some q := fun k hk => ⟨qs[k], List.getElem?_eq_getElem (by omega)⟩
    have stk : ∀ (k : Nat) (q : Addr), qs[k]? = some q → (τp ++ (grSt p qs ++ τ))[Δp.length + (k + 1)]? = some (some (.ref q)) := fun k q e => by
      have hk := (List.getElem?_eq_some_iff.mp e).1
      rw [List.getElem?_append_right (by omega), show Δp.length + (k + 1) - τp.length = k + 1 by omega, List.getElem?_append_left (by unfold grSt; simp [hk])]
      unfold grSt
      rw [List.getElem?_cons_succ, List.getElem?_map, e]
      rfl
    have set_ : ∀ (a : List (List Int)) (k : Nat) (z : Int), k < m → a.length = m → (Δp ++ (grSl qs (vwG a) ++ Δ)).set (Δp.length + (k + 1)) (.ow (.lst ((a.getD k []).map .int ++ [.int z]))) = Δp ++ (grSl qs (vwG (a.set k (a.getD k [] ++ [z]))) ++ Δ) := fun a k z hk e => by
      rw [List.set_append_right _ _ (by omega), show Δp.length + (k + 1) - Δp.length = k + 1 by omega, List.set_append_left _ _ (by unfold grSl vwG; simp [e, hk]), grSl_set, vwG_set]
    obtain ⟨qa, hqa⟩ := qk y.1 b1
    obtain ⟨qb, hqb⟩ := qk y.2 b2
    refine wpSs.of (pss_cons ps_wp (pss_cons ps_wp pss_nil)) ?_
    refine k1 v1 v2 v3 t3 (ll adj la) (stp _) (at0 adj) st0 hqa (atk adj y.1 la b1) (stk _ _ hqa) (by rw [List.length_map]; have := gm adj _ mx y.1; omega) w' fun H' w3 => ?_
    rw [set_ adj y.1 _ b1 la] at w3
    refine k2 v4 v5 v6 t3 (ll _ (by rw [List.length_set]; exact la)) (stp _) (at0 _) st0 hqb (atk _ y.2 (by rw [List.length_set]; exact la) b2) (stk _ _ hqb) ?_ w3 fun H'' w4 => ?_
    · rw [List.length_map]
      have mm : ∀ l ∈ adj.set y.1 (adj.getD y.1 [] ++ [(y.2 : Int)]), l.length ≤ 0 + 2 * (xs.take i).length + 1 := fun l hl => by
        rcases List.mem_or_eq_of_mem_set hl with hl | rfl
        · exact Nat.le_succ_of_le (mx l hl)
        · rw [List.length_append]
          exact Nat.succ_le_succ (gm adj _ mx y.1)
      have := gm _ _ mm y.2
      omega
    rw [set_ _ y.2 _ b2 (by rw [List.length_set]; exact la)] at w4
    exact nx σ H'' w4
  · intro σ' H' ⟨O', w3⟩
    have lN : (xs.foldl stepG (List.replicate m [])).length = m := by rw [foldG_len, List.length_replicate]
    generalize xs.foldl stepG (List.replicate m []) = adj at w3 lN hr
    have lv : qs.length = (vwG adj).length := by unfold vwG; rw [List.length_map, lN]; exact hq
    have g1 := (gr_maps qs (vwG adj) lv).1
    have g2 := (gr_maps qs (vwG adj) lv).2
    rw [List.append_assoc, List.append_assoc] at w3
    have w3' : WfO X.K H0 Oc O' ((((p, Y.D.lst (qs.map fun q => .opq (.ref q))) :: (qs.zip (vwG adj)).map fun z => (z.1, Y.D.lst z.2)).map fun g : Addr × Y.D => Sl.ow g.2) ++ (Δ ++ Γ.set n (.ow (d.put (fs.map (·.1) ++ [f]) (ds ++ [.opq (.ref p)])))))
        ((((p, Y.D.lst (qs.map fun q => .opq (.ref q))) :: (qs.zip (vwG adj)).map fun z => (z.1, Y.D.lst z.2)).map fun g : Addr × Y.D => some (V.ref g.1)) ++ (τ ++ σ')) H' := by
      rw [List.map_cons, List.map_cons, ← g1, ← g2]
      exact w3
    obtain ⟨O2, _, w4, reps⟩ := WfO.thaw _ w3'
    have r0 := reps _ List.mem_cons_self
    have rl : Rep X.K (cut H' O2) (.lst ((vwG adj).map .lst)) (.ref p) := by
      obtain ⟨pz, vz, ez, hz, rz⟩ := r0
      cases ez
      rw [Reps.opqs rz] at hz
      exact ⟨_, _, rfl, hz, gr_reps qs (vwG adj) lv fun g hg => reps g (List.mem_cons_of_mem _ hg)⟩
    have hn : n < Γ.length := (List.getElem?_eq_some_iff.mp h).1
    obtain ⟨yy2, hy2, pa2, oo2, rfl, m2, m3, m4, m5⟩ := slot_of hl w4 (n := n) (by rw [List.getElem?_set_self hn])
    obtain ⟨pw1, pw2⟩ := put_put (n1 := fs.map (·.1) ++ [f]) (n2 := fs.map (·.1) ++ [f]) (d1 := ds ++ [.opq (.ref p)]) (d2 := ds ++ [.lst ((vwG adj).map .lst)]) ho
    obtain ⟨dx2, fs2, rfl, y1, y2, y3⟩ := RepH.own (ds1 := ds ++ [.lst ((vwG adj).map .lst)]) m5 pw1
    obtain ⟨us, ws, e5, r5, r6⟩ := Reps.split y2
    obtain ⟨v6, ws', e6, r7, r8⟩ := r6
    obtain rfl : v6 = .ref p := r7
    obtain rfl : ws' = [] := r8
    have y4 := y3 dx2 fs2 (by rw [e5, e6]; exact r5.app (Reps.one rl))
    rw [y1, pw2] at y4
    obtain ⟨i1', i2'⟩ := len_app (σ := σ') hl (n := n) (Γ := Γ.set n (.ow (d.put (fs.map (·.1) ++ [f]) (ds ++ [.opq (.ref p)])))) (by rw [List.getElem?_set_self hn])
    have w5 := w4.redata i1' (i2'.trans hy2) m4 y4
    rw [List.set_append_right _ _ (by omega), show Δ.length + n - Δ.length = n by omega, List.set_set] at w5
    refine hr Δ τ σ' H' D' hl st ⟨O2, ?_⟩ k
    have e9 : (vwG adj).map Y.D.lst = adj.map fun l => Y.D.lst (l.map .int) := by unfold vwG; rw [List.map_map]; rfl
    rw [← e9]
    exact w5
end
end Y

namespace TrM
open PySem PySem.Spec PyProof.Rows L2
/-! ## try with several clauses `except x as n`, all with one name n -/
abbrev Su := Addr → Value → Option Addr → TS
/-- what the clauses wish, one behind the other -/
def wEach (K : PySem.W.Frag) (i : Nat) (Wo : WX) (D : Ends) : List (Value × Su) → WX
  | [] => Wo
  | ct :: r => wAs K ct.1 i ct.2 (wEach K i Wo D r) D
inductive Cls (X : Cx) (n : Str) : List ExceptHandler → List (Value × Su) → Prop
  | nil : Cls X n [] []
  | cons {x : Str} {c : Value} {ts : Su} {b0 : Stmt} {sui : List Stmt} {p1 p2 : Pos} {hs : List ExceptHandler} {l : List (Value × Su)} (nm : Names X x c)
      (run : ∀ (a : Addr) (oe : Obj) (cl : Value) (dd : Option Addr) (q : List (Addr × Obj)), L2N.Zn cl dd oe → (∃ us, oe.data = .fields us) → PSs (X.suite a ((a, oe) :: q)) (b0 :: sui) (ts a cl dd)) (r : Cls X n hs l) :
      Cls X n (.ExceptHandler (some (.Name x p1)) (some n) (b0 :: sui) p2 :: hs) ((c, ts) :: l)
section
variable {X : Cx} {n : Str} {i : Nat} {body : List Stmt} {h0 : ExceptHandler} {hs : List ExceptHandler} {l : List (Value × Su)} {pos : Pos} {tb : WX → TS} {Wo : WX}
theorem ps_each (stk : X.stack = X.env :: X.outer) (frm : X.env.frame = some X.env.locals) (nd : X.N.Nodup) (ni : X.N[i]? = some n) (nl : X.env.kindOf n = some .local) (tk : L2N.Takes X Wo)
    (hb : ∀ (W : WX) (q : List (Addr × Obj)) (xe : Value → Shared → Prop), L2N.Takes (X.tr q xe) W → PassesOwn (model X.prog X.w) X.A X.env xe → PSs (X.tr q xe) body (tb W))
    (all : Cls X n (h0 :: hs) l) : PS X (.Try body (h0 :: hs) [] [] pos) (fun D σ H => tb (wEach X.K i Wo D l) D σ H) := by
  refine ⟨fun pins s σ H D I want => ?_⟩
  have well := I.ok
  have fr : X.A.frames = some (X.env :: X.outer) := by rw [well.frames, stk]
  have lc : Loc X.env.scope n := .inl nl
  refine wpAny_Try_except ?_
  have bodyRun := hb (wEach X.K i Wo D l) (X.pn ++ pins) (fun e z1 => wpAny (model X.prog X.w) X.A (noteFrame e X.env) (fun _ z2 => wpAny (model X.prog X.w) X.A (setFlight e none) (fun _ z3 => wpAny (model X.prog X.w) X.A (handleBy e X.env (h0 :: hs)) (SP X pins D) X.xe z3) X.xe z2) X.xe z1)
    (fun u s' caught => by
      obtain ⟨a, B, sI, pins', σ', H', cl, dd, rfl, JB, new, upT, skyT, fresh, osE, bare, wish⟩ := caught
      have JT : Inv X pins σ' H' sI := JB.ofTry well
      have sky1 : Sky B (X.env :: X.outer) a (L2N.Zn cl dd) X.env.locals s'.heap := by rw [← stk]; exact skyT
      show wpAny (model X.prog X.w) X.A (noteFrame (.ref a) X.env) _ _ _
      refine L2N.Sky.land L2N.Zn.steady fr frm sky1 fun g3 fl3 up3 => ?_
      have J3 : Inv X pins σ' H' { s' with heap := g3 } := JT.landed new fl3.1 (upT.trans up3) osE bare
      obtain ⟨o3, us3, at3, zn3, da3⟩ := fl3.there
      have away : ∀ {g : Heap} {o : Obj} {us : Array Value}, g.FunFrames B (X.env :: X.outer) → g.get? a = some o → o.data = .fields us → a ∉ frs (X.env :: X.outer) := fun {g o us} ff e1 e2 m => by
        obtain ⟨_, o', e3, nf⟩ := ff.mem m
        rw [e1] at e3
        cases e3
        exact nf _ e2
      have aw := away fl3.2.2.1 at3 da3
      have a1 : a ≠ X.env.locals := fun e => aw (List.mem_filterMap.mpr ⟨X.env, List.mem_cons_self, by rw [frm, e]⟩)
      have a2 : a ∉ X.fs := fun m => by
        obtain ⟨en, m1, m2⟩ := List.mem_filterMap.mp m
        exact aw (List.mem_filterMap.mpr ⟨en, List.mem_cons_of_mem _ m1, m2⟩)
      have T3 := J3.suite at3 da3 fresh a1 a2
      have each : ∀ {ks : List ExceptHandler} {r : List (Value × Su)}, Cls X n ks r → wEach X.K i Wo D r cl dd σ' H' → wpAny (model X.prog X.w) X.A (handleBy (.ref a) X.env ks) (SP X pins D) X.xe { s' with heap := g3 } := by
        intro ks r ok
        induction ok with
        | nil =>
          intro wish
          refine wpAny_handleBy_nil ?_
          obtain ⟨y1, y2, y3, oe, us, T, oT, ts', q1, q2, q3, q4, q5⟩ := id fl3
          unfold PySem.passOn
          refine wpAny_bind (wpAny_field q1 q3 q4 ?_)
          rw [if_neg (show ¬ ((Value.ref T == Value.none) = true) from by simp)]
          have off : wpAny (model X.prog X.w) X.A (setFlight (.ref a) X.env.frame) (fun _ z => wpAny (model X.prog X.w) X.A (throw (.ref a) : Sem Flow) (SP X pins D) X.xe z) X.xe { s' with heap := g3 } := by
            rw [frm]
            refine HandSPX.setFlight_upZ fl3 fun g4 hh4 up4 => wpAny_throw (tk _ _ ?_)
            exact ⟨a, B, sI, pins, σ', H', cl, dd, rfl, JT, new, (upT.trans up3).trans up4, .inr (.inr (by rw [stk]; exact hh4)), fresh, osE, bare, wish⟩
          first | exact wpAny_bind (wpAny_pure (wpAny_bind off)) | exact wpAny_bind off
        | @cons x c ts b0 sui p1 p2 hs2 l2 nm run r2 ih =>
          intro wish
          obtain ⟨b, isB, yes, no⟩ := wish
          refine wpAny_handleBy_cons (codeAny_handlers_test ?_) (by intro q; cases q)
          have LT : PySem.W.Looks (model X.prog X.w) g3 (typeOf (.ref a)) cl := fun A Q E z k q => wpAny_typeOf_ref (k _ _ at3) (by rw [zn3.1]; exact q)
          have LM := PySem.W.exm_one (M := model X.prog X.w) (J3.kIn) LT isB
          have nameIs : ∀ {Q E : Value → Shared → Prop}, Q c { s' with heap := g3 } → wpAny (model X.prog X.w) (X.A.mark (some (.ref a))) (eval (.Name x p1) X.env) Q E { s' with heap := g3 } := fun {Q E} q => by
            obtain ⟨gl, db, hm | ⟨hm, hv, hn⟩⟩ := nm
            · exact ld_glob (X := X.suite a ((a, o3) :: (X.pn ++ pins))) T3 gl hm q db
            · exact ld_blt (X := X.suite a ((a, o3) :: (X.pn ++ pins))) T3 gl hm hv q hn db
          refine nameIs (LM.here ?_)
          cases b with
          | false =>
            show wpAny _ X.A (handleBy (.ref a) X.env hs2) _ _ _
            exact ih (no rfl)
          | true =>
            refine codeAny_handlers_suite_as ?_
            refine HandSPX.lands_againZ fl3 fun g4 fl4 up4 => ?_
            have J4 : Inv X pins σ' H' { s' with heap := g4 } := JT.landed new fl4.1 ((upT.trans up3).trans up4) osE bare
            obtain ⟨o4, us4, at4, zn4, da4⟩ := fl4.there
            have T4 := J4.suite at4 da4 fresh a1 a2
            refine store_ok (X := X.suite a ((a, o4) :: (X.pn ++ pins))) (v := .ref a) T4 nd ni lc rfl (fun z5 T5 => ?_) (.inr nl)
            refine wpAny_mono ((run a o4 cl dd (X.pn ++ pins) zn4 ⟨_, da4⟩).run [] z5 _ H' _ T5 (yes rfl a fresh)) (fun f z6 ends => ?_) (fun _ _ z => False.elim z)
            have gone : ∀ {σ6 : L2.St} {H6 : Hp} {Q : Shared → Prop}, Inv (X.suite a ((a, o4) :: (X.pn ++ pins))) [] σ6 H6 z6 → (∀ z7, Inv X pins (σ6.set i none) H6 z7 → Q z7) →
                wpAny (model X.prog X.w) X.A (do bindName X.env n .none; unbindBehindTheSuite X.env n p2) (fun _ z7 => Q z7) X.xe z6 := fun {σ6 H6 Q} T6 hq => gone_ok (T6.unsuite well) nd ni nl hq
            match f, ends with
            | .next, ⟨σ6, H6, T6, q6⟩ => exact gone T6 fun z7 J7 => ⟨_, _, J7, q6⟩
            | .brk, ⟨σ6, H6, T6, q6⟩ => exact gone T6 fun z7 J7 => ⟨_, _, J7, q6⟩
            | .cont, ⟨σ6, H6, T6, q6⟩ => exact gone T6 fun z7 J7 => ⟨_, _, J7, q6⟩
            | .ret u, ⟨v6, σ6, H6, T6, r6, q6⟩ => exact gone T6 fun z7 J7 => ⟨_, _, _, J7, r6, q6⟩
      exact each all wish) PassesOwn.looking
  refine wpAny_mono (bodyRun.run [] s σ H D (I.toTry _) want) (fun f z1 ends => ?_) (fun e z1 he => he)
  match f, ends with
  | .next, ⟨σ', H', J', q⟩ => exact wpAny_execs_nil ⟨σ', H', J'.ofTry well, q⟩
  | .brk, ⟨σ', H', J', q⟩ => exact ⟨σ', H', J'.ofTry well, q⟩
  | .cont, ⟨σ', H', J', q⟩ => exact ⟨σ', H', J'.ofTry well, q⟩
  | .ret u, ⟨v, σ', H', J', r, q⟩ => exact ⟨v, σ', H', J'.ofTry well, r, q⟩
end
end TrM
namespace Y
open PySem L2
section
variable {X : Cx} {W : WX} {H0 : Hp} {Oc : List Addr} {Γ : List Sl} {rest body : List Stmt} {pos pos' : Pos} {out : Out} {n : Nat} {y : Str}
/-- the clauses by data: class, suite -/
inductive CD (X : Cx) (y : Str) : List ExceptHandler → List (Value × List Stmt) → Prop
  | nil : CD X y [] []
  | cons {x : Str} {c : Value} {b0 : Stmt} {sui : List Stmt} {p1 p2 : Pos} {hs : List ExceptHandler} {l : List (Value × List Stmt)} (nm : Names X x c) (r : CD X y hs l) : CD X y (.ExceptHandler (some (.Name x p1)) (some y) (b0 :: sui) p2 :: hs) ((c, b0 :: sui) :: l)
/-- the first clause that takes C runs its suite -/
def TakeOk (X : Cx) (W : WX) (H0 : Hp) (Oc : List Addr) (n : Nat) (rest : List Stmt) (out : Out) (C : Addr) (ns : List Str) (ds : List D) (Γe : List Sl) : List (Value × List Stmt) → Prop
  | [] => out = .exc C ns ds (some Γe)
  | (c, sui) :: r => (PySem.W.exmOne X.K (.ref C) c = some true ∧ ∀ (a : Addr) (oe : Obj) (d : Addr) (pn : List (Addr × Obj)), L2N.Zn (.ref C) (some d) oe → (∃ vs, oe.data = .fields vs) →
      ∃ os, Sds (X.suite a ((a, oe) :: pn)) wNo H0 Oc (Γe.set n (.va (.er a C d ns ds))) sui os ∧ SuiteOk X W H0 Oc n rest out os) ∨ (PySem.W.exmOne X.K (.ref C) c = some false ∧ TakeOk X W H0 Oc n rest out C ns ds Γe r)
def EachOk (X : Cx) (W : WX) (H0 : Hp) (Oc : List Addr) (n : Nat) (l : List (Value × List Stmt)) (rest : List Stmt) (out : Out) : Out → Prop
  | .nx Γ1 => Sds X W H0 Oc Γ1 rest out
  | .ret s => out = .ret s
  | .brk Γ1 => out = .brk Γ1
  | .cnt Γ1 => out = .cnt Γ1
  | .exc C ns ds (some Γe) => TakeOk X W H0 Oc n rest out C ns ds Γe l
  | .exc _ _ _ none => False
def tSui (X : Cx) (sui : List Stmt) : TrM.Su := fun a cls d D σ H => ∀ (oe : Obj) (pn : List (Addr × Obj)), L2N.Zn cls d oe → (∃ vs, oe.data = .fields vs) → wpSs (X.suite a ((a, oe) :: pn)) sui D σ H
theorem CD.cls : ∀ {hs : List ExceptHandler} {l : List (Value × List Stmt)}, CD X y hs l → TrM.Cls X y hs (l.map fun z => (z.1, tSui X z.2))
  | _, _, .nil => .nil
  | _, _, .cons nm r => .cons nm (fun a oe cl dd q z f => ⟨fun pins s σ H D I h => h oe q z f pins s I⟩) r.cls
theorem sds_each {h0 : ExceptHandler} {hs : List ExceptHandler} {l : List (Value × List Stmt)} {ob : Out} (stk : X.stack = X.env :: X.outer) (frm : X.env.frame = some X.env.locals) (nd : X.N.Nodup) (ni : X.N[n]? = some y) (nl : X.env.kindOf y = some .local) (tk : L2N.Takes X W) (all : CD X y (h0 :: hs) l)
    (hb : ∀ (W' : WX) (pn : List (Addr × Obj)) (xe : Value → Shared → Prop), L2N.Takes (X.tr pn xe) W' → PassesOwn (model X.prog X.w) X.A X.env xe → Sds (X.tr pn xe) W' H0 Oc Γ body ob) (h : EachOk X W H0 Oc n l rest out ob) :
    Sds X W H0 Oc Γ (.Try body (h0 :: hs) [] [] pos :: rest) out := fun Δ τ σ H D hl st w k => by
  refine wpSs.of (pss_cons (TrM.ps_each (tb := fun W' D σ H => ∀ (pn : List (Addr × Obj)) (xe : Value → Shared → Prop), L2N.Takes (X.tr pn xe) W' → PassesOwn (model X.prog X.w) X.A X.env xe → wpSs (X.tr pn xe) body D σ H) stk frm nd ni nl tk
    (fun W' pn xe t po => ⟨fun pins s σ H D I h => h pn xe t po pins s I⟩) all.cls) pss_wp) ?_
  intro pn xe t po
  refine hb _ pn xe t po Δ τ σ H _ hl st w ?_
  match ob, h with
  | .nx Γ1, h => exact fun σ' H' w' => h Δ τ σ' H' D hl st w' k
  | .ret s, h => subst h; exact k
  | .brk Γ1, h => subst h; exact k
  | .cnt Γ1, h => subst h; exact k
  | .exc C ns ds (some Γe), h =>
    intro d σ' H' xw
    have xw' : Wf X.K H0 Oc (.va (.xd ns ds) :: (Δ ++ Γe)) (some (.ref d) :: (τ ++ σ')) H' := xw
    have go : ∀ {l : List (Value × List Stmt)}, TakeOk X W H0 Oc n rest out C ns ds Γe l → TrM.wEach X.K n W { D with nx := fun σ H => wpSs X rest D σ H } (l.map fun z => (z.1, tSui X z.2)) (.ref C) (some d) σ' H' := by
      intro l
      induction l with
      | nil =>
        intro h
        have h : out = .exc C ns ds (some Γe) := h
        subst h
        exact k d σ' H' xw
      | cons z l ih =>
        intro h
        obtain ⟨c, sui⟩ := z
        rcases h with ⟨hm, h⟩ | ⟨hm, h⟩
        · refine ⟨true, hm, fun _ aa na => ?_, (fun z => nomatch z)⟩
          intro oe pn2 z f
          obtain ⟨os, h1, h2⟩ := h aa oe d pn2 z f
          obtain ⟨O, w1⟩ := xw'
          obtain ⟨v, e1, d', fs, e2, g2, g3, g4⟩ := w1.head
          cases e1
          cases e2
          have w2 := (w1.pop.push (s := .va (.er aa C d ns ds)) (y := some (.ref aa)) ⟨.ref aa, rfl, fs, rfl, g2, g3, g4⟩ fun _ z => nomatch z).set (n := n) hl
          refine h1 Δ τ _ H' _ hl st ⟨O, w2⟩ ?_
          match os, h2 with
          | .nx Γ2, h2 => exact fun σ4 H4 w4 => h2 Δ τ _ H4 D hl st (w4.unset hl) k
          | .ret s, h2 => subst h2; exact k
          | .brk Γ2, h2 => subst h2; exact fun σ4 H4 w4 => k _ H4 (w4.unset hl)
          | .cnt Γ2, h2 => subst h2; exact fun σ4 H4 w4 => k _ H4 (w4.unset hl)
        · exact ⟨false, hm, (fun z => nomatch z), fun _ => ih h⟩
    exact go h
end
end Y

namespace Y
open PySem PySem.Spec PyProof.Rows L2
section
variable {X : Cx} {W : WX} {H0 : Hp} {Oc : List Addr} {Γ : List Sl} {a b c e : Expr} {pos p p2 : Pos} {d : D} {ds : List D} {i j k : Int} {ns : List Int} {f : Str}
/-! ### i <= j < k -/
theorem ev_lelt (ha : Ev X H0 Oc Γ a (.va (.int i))) (hb : Ev X H0 Oc Γ b (.va (.int j))) (hc : Ev X H0 Oc Γ c (.va (.int k))) (hm : lastMarks [.LtE, .Lt] [b, c] = false := by with_unfolding_all rfl) : Ev X H0 Oc Γ (.Compare a [.LtE, .Lt] [b, c] pos) (.va (.bl (decide (i ≤ j) && decide (j < k)))) := fun Δ τ σ H Q hl w q => by
  refine wpE.of (pe_chain op_le op_lt pe_wp pe_wp pe_wp hm) (ha Δ τ σ H _ hl w fun v H1 w1 => ?_)
  refine hb (.va (.int i) :: Δ) (some v :: τ) σ H1 _ (by simp [hl]) w1 fun u H2 w2 => ?_
  obtain ⟨O2, w2'⟩ := id w2
  obtain ⟨u', e1, r1⟩ := w2'.head
  cases e1
  obtain ⟨v', e2, r2⟩ := w2'.pop.head
  cases e2
  obtain rfl : u = .int j := r1
  obtain rfl : v = .int i := r2
  refine ⟨i, j, rfl, rfl, decide (i ≤ j), rfl, ?_⟩
  by_cases hij : i ≤ j
  · rw [if_pos (decide_eq_true hij)]
    refine hc (.va (.int j) :: .va (.int i) :: Δ) (some (.int j) :: some (.int i) :: τ) σ H2 _ (by simp [hl]) w2 fun z H3 ⟨O3, w3⟩ => ?_
    obtain ⟨z', e3, r3⟩ := w3.head
    cases e3
    obtain rfl : z = .int k := r3
    refine ⟨j, k, rfl, rfl, ?_⟩
    have := q (.bl (decide (i ≤ j) && decide (j < k))) H3 ⟨O3, w3.pop.pop.pop.flat rfl (show Rep X.K H3 (.bl (decide (i ≤ j) && decide (j < k))) (.bl (decide (i ≤ j) && decide (j < k))) from rfl)⟩
    rwa [decide_eq_true hij, Bool.true_and] at this
  · rw [if_neg (by simp [hij])]
    have := q (.bl (decide (i ≤ j) && decide (j < k))) H2 ⟨O2, w2'.pop.pop.flat rfl (show Rep X.K H2 (.bl (decide (i ≤ j) && decide (j < k))) (.bl (decide (i ≤ j) && decide (j < k))) from rfl)⟩
    rwa [decide_eq_false hij, Bool.false_and] at this
/-! ### a class's constant -/
theorem ev_cval {C : Addr} {mc u : Value} (he : Ev X H0 Oc Γ e (.va (.opq (.ref C)))) (r : ClX.CRead X.K C mc) (kv : ClX.CVal X.K C mc f (.int i) u) (hb : attributeBase e f X.env (eval e X.env) = eval e X.env := by rfl) : Ev X H0 Oc Γ (.Attribute e f pos) (.va (.int i)) := fun Δ τ σ H Q hl w q =>
  wpE.of (ClX.pe_cval pe_wp hb) (he Δ τ σ H _ hl w fun v H1 ⟨O, w1⟩ => by
    obtain ⟨v', e1, r1⟩ := w1.head
    cases e1
    obtain rfl : v = .ref C := r1
    exact ⟨C, mc, .int i, u, rfl, r, kv, q _ H1 ⟨O, w1.pop.flat rfl (show Rep X.K H1 (.int i) (.int i) from rfl)⟩⟩)
/-! ### is, is not, of truth values -/
theorem va2' {K : PySem.W.Frag} {O : List Addr} {d1 d2 : D} {G : List Sl} {S : List (Option V)} {H : Hp} {v w : V} (W : WfO K H0 Oc O (.va d2 :: .va d1 :: G) (some w :: some v :: S) H) : Rep K (cut H O) d1 v ∧ Rep K (cut H O) d2 w := by
  obtain ⟨w', e, r⟩ := W.head
  cases e
  obtain ⟨v', e2, r2⟩ := W.pop.head
  cases e2
  exact ⟨r2, r⟩
theorem c_isB {x y : Bool} : C2 X H0 Oc .Is (.va (.bl x)) (.va (.bl y)) (decide (x = y)) := ⟨_, op_isBl, fun G S H v w Q ⟨O, W⟩ q => by
  obtain ⟨r1, r2⟩ := va2' W
  exact ⟨x, y, r1, r2, q H ⟨O, W.pop.pop⟩⟩⟩
theorem c_nisB {x y : Bool} : C2 X H0 Oc .IsNot (.va (.bl x)) (.va (.bl y)) (!decide (x = y)) := ⟨_, op_notBl, fun G S H v w Q ⟨O, W⟩ q => by
  obtain ⟨r1, r2⟩ := va2' W
  exact ⟨x, y, r1, r2, q H ⟨O, W.pop.pop⟩⟩⟩
/-! ### an int in a tuple or list of ints -/
theorem inV_ints (x : Int) : ∀ ns : List Int, inV (.int x) (ns.map V.int) = decide (x ∈ ns)
  | [] => rfl
  | n :: ns => by
    have ih := inV_ints x ns
    unfold inV at ih ⊢
    rw [List.map_cons, List.any_cons, ih]
    show ((n == x) || _) = _
    by_cases e : n = x
    · simp [e]
    · simp [e, Ne.symm e]
theorem flat_ints : ∀ ns : List Int, (ns.map V.int).all flatV = true
  | [] => rfl
  | _ :: ns => flat_ints ns
theorem c_inTI (x : Int) (ns : List Int) : C2 X H0 Oc .In (.va (.int x)) (.bw (encT ns)) (decide (x ∈ ns)) := ⟨_, op_in_seq, fun G S H v w Q ⟨O, W⟩ q => by
  obtain ⟨r1, r2⟩ := vb2 W
  obtain ⟨pp, vs, rfl, h1, h2⟩ := r2
  obtain rfl : v = .int x := r1
  have e := Reps.ints h2
  subst e
  refine ⟨pp, _, rfl, .inr (.of h1), rfl, flat_ints ns, ?_⟩
  show Q (.bl (inV (.int x) (ns.map V.int))) H
  rw [inV_ints]
  exact q H ⟨O, W.pop.pop⟩⟩
theorem c_inLI (x : Int) (ns : List Int) : C2 X H0 Oc .In (.va (.int x)) (.bw (.lst (ns.map .int))) (decide (x ∈ ns)) := ⟨_, op_in_seq, fun G S H v w Q ⟨O, W⟩ q => by
  obtain ⟨r1, r2⟩ := vb2 W
  obtain ⟨pp, vs, rfl, h1, h2⟩ := r2
  obtain rfl : v = .int x := r1
  have e := Reps.ints h2
  subst e
  refine ⟨pp, _, rfl, .inl (.of h1), rfl, flat_ints ns, ?_⟩
  show Q (.bl (inV (.int x) (ns.map V.int))) H
  rw [inV_ints]
  exact q H ⟨O, W.pop.pop⟩⟩
theorem c_ninLI (x : Int) (ns : List Int) : C2 X H0 Oc .NotIn (.va (.int x)) (.bw (.lst (ns.map .int))) (!decide (x ∈ ns)) := ⟨_, op_notIn_seq, fun G S H v w Q ⟨O, W⟩ q => by
  obtain ⟨r1, r2⟩ := vb2 W
  obtain ⟨pp, vs, rfl, h1, h2⟩ := r2
  obtain rfl : v = .int x := r1
  have e := Reps.ints h2
  subst e
  refine ⟨pp, _, rfl, .inl (.of h1), rfl, flat_ints ns, ?_⟩
  show Q (.bl (!inV (.int x) (ns.map V.int))) H
  rw [inV_ints]
  exact q H ⟨O, W.pop.pop⟩⟩
/-! ### max of a list -/
def mxI (n : Int) (ns : List Int) : Int := ns.foldl max n
theorem mxI_ge (n : Int) : ∀ (ns : List Int), n ≤ mxI n ns ∧ ∀ y ∈ ns, y ≤ mxI n ns
  | [] => ⟨Int.le_refl _, fun _ h => nomatch h⟩
  | m :: ns => by
    obtain ⟨h1, h2⟩ := mxI_ge (max n m) ns
    refine ⟨Int.le_trans (Int.le_max_left n m) h1, fun y hy => ?_⟩
    rcases List.mem_cons.mp hy with rfl | hy
    · exact Int.le_trans (Int.le_max_right n y) h1
    · exact h2 y hy
theorem mxI_mem (n : Int) : ∀ (ns : List Int), mxI n ns = n ∨ mxI n ns ∈ ns
  | [] => .inl rfl
  | m :: ns => by
    rcases mxI_mem (max n m) ns with h | h
    · have : mxI n (m :: ns) = max n m := h
      rw [this]
      rcases Int.le_total n m with q | q
      · rw [Int.max_eq_right q]; exact .inr List.mem_cons_self
      · rw [Int.max_eq_left q]; exact .inl rfl
    · exact .inr (List.mem_cons_of_mem _ h)
theorem e_maxL {n : Int} (hm : X.mg "max" = none) (hc : X.calm = true) (ha : Ev X H0 Oc Γ a (.bw (.lst ((n :: ns).map .int)))) (hg : Gl X "max" := by rfl) (he : starEach [a] X.env = (false, eval a X.env) :: starEach [] X.env := by rfl) (hpl : (backTo pos (starEach [] X.env)).any (·.1) = false := by rfl) :
    Ev X H0 Oc Γ (.Call (.Name "max" p) [a] [] pos) (.va (.int (mxI n ns))) := ev_b1 (cr_max hc) ha hm (by decide +kernel) hg (fun G S H v Q ⟨O, W⟩ q => by
      obtain ⟨u, g1, t, vs, rfl, h1, h2⟩ := W.head
      cases g1
      have e := Reps.ints h2
      subst e
      refine ⟨t, n :: ns, rfl, .of h1, Nat.zero_lt_succ _, fun m hm hy => ?_⟩
      have e : m = mxI n ns := by
        obtain ⟨g1, g2⟩ := mxI_ge n ns
        have k1 : m ≤ mxI n ns := by
          rcases List.mem_cons.mp hm with rfl | hm
          · exact g1
          · exact g2 m hm
        have k2 : mxI n ns ≤ m := by
          rcases mxI_mem n ns with z | z
          · rw [z]; exact hy n List.mem_cons_self
          · exact hy _ (List.mem_cons_of_mem _ z)
        omega
      rw [e]
      exact q _ H ⟨O, W.pop.flat rfl (show Rep X.K H (.int (mxI n ns)) (.int (mxI n ns)) from rfl)⟩) (by decide) (by decide) he hpl
/-- max(xs, default=i) -/
def mxDef (i : Int) : List Int → Int
  | [] => i
  | n :: ns => mxI n ns
def rMxD (K : PySem.W.Frag) : List V → List V → Hp → VK → Prop := fun xs zs H Q => ∃ (t : Addr) (ns : List Int) (i : Int), xs = [.ref t] ∧ zs = [.int i] ∧ SqL K H t (ns.map V.int) ∧ Q (.int (mxDef i ns)) H
theorem reads_ints {h : Heap} : ∀ {ns : List Int} {us : List Value}, IntsAre us ns → ReadsAll h us (ns.map PyData.int) []
  | _, _, .nil => .nil
  | _, _, .cons n t r => .cons (as := []) (.int n t) (reads_ints r)
theorem alikes_ints (ns : List Int) : PySem.W.AlikeAll (ns.map PyData.int) := by
  refine ⟨fun x hx y hy => ?_, fun x hx => ?_⟩
  · obtain ⟨i, _, rfl⟩ := List.mem_map.mp hx
    obtain ⟨j, _, rfl⟩ := List.mem_map.mp hy
    rfl
  · obtain ⟨i, _, rfl⟩ := List.mem_map.mp hx
    exact fun z => nomatch z
theorem depth_ints : ∀ ns : List Int, PyData.depthAll (ns.map PyData.int) = 0
  | [] => rfl
  | n :: ns => by show max 0 (PyData.depthAll (ns.map PyData.int)) = 0; rw [depth_ints ns]; rfl
theorem cr_mxD (hc : X.calm = true) (hu : X.A.units + 64 < cLine) : CallRK X (.builtin "max") [Str.ofString "default"] (rMxD X.K) := by
  intro pins s σ H xs zs us ws Q I r rz h
  obtain ⟨t, ns, i, rfl, rfl, hs, q⟩ := h
  obtain ⟨its, rv, hl, _⟩ := I.list hs
  obtain ⟨w1, rfl, tk, e1⟩ := vals1 rz
  rw [Vals.ref1 r, e1]
  refine PySem.W.max_list_default (xs := ns.map PyData.int) (I.ok.hd hc) hl.isList (by simpa using reads_ints rv.ints) (alikes_ints ns) (by rw [depth_ints]; omega) (fun e0 h' k hk => ?_) (fun y ys n v h' k bs e0 hv hr hk => ?_)
  · cases ns with
    | nil => exact ⟨.int i, H, I.kept hk, ⟨_, rfl⟩, q⟩
    | cons m ns => cases e0
  · cases ns with
    | nil => cases e0
    | cons m ns =>
      obtain ⟨rfl, rfl⟩ := List.cons.inj e0
      rw [PySem.W.maxD_ints] at hr
      cases hr
      exact ⟨.int _, H, I.kept hk, ⟨_, rfl⟩, q⟩
theorem e_mxD {kw : Str} {kp : Pos} (hm : X.mg "max" = none) (hc : X.calm = true) (hu : X.A.units + 64 < cLine) (ha : Ev X H0 Oc Γ a (.bw (.lst (ns.map .int)))) (hb : Ev X H0 Oc Γ b (.va (.int i))) {kws : List Keyword} (hk : ∀ {tb : TE}, PE X b tb → PK X kws (tCons tb tNil)) (hg : Gl X "max" := by rfl)
    (he : starEach [a] X.env = (false, eval a X.env) :: starEach [] X.env := by rfl) (he2 : backTo pos (starEach [a] X.env) = (false, eval a X.env) :: backTo pos (starEach [] X.env) := by rfl) (hpl : (backTo pos (starEach [a] X.env)).any (·.1) = false := by rfl)
    (hall : (backToKw pos (keywordEach kws X.env)).all (·.1.isSome) = true := by rfl) (hno : (backToKw pos (keywordEach kws X.env)).any (·.1.isNone) = false := by rfl) (hks : (backToKw pos (keywordEach kws X.env)).filterMap (·.1) = [Str.ofString "default"] := by rfl) :
    Ev X H0 Oc Γ (.Call (.Name "max" p) [a] kws pos) (.va (.int (mxDef i ns))) := fun Δ τ σ H Q hl w q => by
  refine wpE.of (pe_callBK (cr_mxD hc hu) hg hm (by decide +kernel) (pa_cons pe_wp pa_nil he) (hk pe_wp) (by decide) (by decide) he2 hpl hall hno hks) ?_
  refine ha Δ τ σ H _ hl w fun v H1 w1 => ?_
  refine hb (.bw (.lst (ns.map .int)) :: Δ) (some v :: τ) σ H1 _ (by simp [hl]) w1 fun u H2 ⟨O, w2⟩ => ?_
  obtain ⟨u', e1, r1⟩ := w2.head
  cases e1
  obtain rfl : u = .int i := r1
  obtain ⟨v', e2, t, vs, rfl, h1, h2⟩ := w2.pop.head
  cases e2
  have e := Reps.ints h2
  subst e
  exact ⟨t, ns, i, rfl, rfl, .of h1, q _ H2 ⟨O, w2.pop.pop.flat rfl (show Rep X.K H2 (.int (mxDef i ns)) (.int (mxDef i ns)) from rfl)⟩⟩
end
end Y

namespace Y
open PySem L2
/-! ## [elt for tg in iter for tg1 in range(b) if ..] -/
theorem wipe_sub {σ : L2.St} {vs1 vs : List Nat} (h : ∀ i ∈ vs1, i ∈ vs) : wipe (wipe σ vs1) vs = wipe σ vs := by
  apply List.ext_getElem?
  intro i
  rw [wipe_get, wipe_get, wipe_get, wipe_length]
  by_cases hi : i ∈ vs ∧ i < σ.length
  · rw [if_pos hi, if_pos hi]
  · rw [if_neg hi, if_neg hi, if_neg fun z => hi ⟨h i z.1, z.2⟩]
section
variable {X : Cx} {W : WX} {H0 : Hp} {Oc : List Addr} {Γ : List Sl} {tg tg1 iter b elt : Expr} {ifs : List Expr} {pos pos' p p1 p2 : Pos} {scope : Scope} {own : List (Str × Nat)} {vs1 : List Nat} {rest : List Stmt} {out : Out} {y : Str}
def part2 {α : Type} (m : α → Nat) (pr : α → Nat → Bool) (g : α → Nat → D) (x : α) : List D := ((List.range (m x)).filter (pr x)).map (g x)
theorem lc2_run {α : Type} (xs : List α) (enc : α → D) (m : α → Nat) (pr : α → Nat → Bool) (g : α → Nat → D) (Γe : α → List Sl) (Γf : α → Nat → List Sl) {Δ : List Sl} {τ : List (Option V)} {σ : L2.St} {H : Hp} {Q : VK} {wi : TI} (hl : τ.length = Δ.length) (w : Wf X.K H0 Oc (Δ ++ Γ) (τ ++ σ) H)
    (hwi : ∀ (Δ : List Sl) (τ : List (Option V)) (σ : L2.St) (H : Hp) (R : It → Hp → Prop), τ.length = Δ.length → Wf X.K H0 Oc (Δ ++ Γ) (τ ++ σ) H →
      (∀ J Δh τh H', (∀ H0' Oc', ItOk X.K H0' Oc' J Δh τh (xs.map enc)) → Δh.map Sl.arg = Δh → Wf X.K H0 Oc (Δh ++ (Δ ++ Γ)) (τh ++ (τ ++ σ)) H' → R J H') → wi σ H R)
    (hn : (xs.flatMap (part2 m pr g)).length ≤ 1000000) (hm : ∀ x ∈ xs, m x ≤ 1000000) (hv : ∀ i ∈ vs1, i ∈ own.map (·.2))
    (ht : ∀ x ∈ xs, ∀ H0' Oc' s0 H00 C cl fp, Tgw (blkX X scope s0 H00 C cl fp) H0' Oc' (own.map (·.2)) tg (wipeG (Γ.map Sl.arg) (own.map (·.2))) (.va (enc x)) (Γe x))
    (hst : ∀ x ∈ xs, stab (Γe x) = true ∧ Sub (wipeG (wipeG (Γe x) vs1) (own.map (·.2))) (wipeG (Γ.map Sl.arg) (own.map (·.2))))
    (hb : ∀ x ∈ xs, ∀ H0' Oc' s0 H00 C cl fp, Ev (blkX X scope s0 H00 C cl fp) H0' Oc' (Γe x) b (.va (.int (m x : Int))))
    (ht1 : ∀ x ∈ xs, ∀ k, k < m x → ∀ H0' Oc' s0 H00 C cl fp, Tgw (blkX X scope s0 H00 C cl fp) H0' Oc' vs1 tg1 (wipeG (Γe x) vs1) (.va (.int (k : Int))) (Γf x k))
    (hst1 : ∀ x ∈ xs, ∀ k, k < m x → stab (Γf x k) = true ∧ Sub (wipeG (Γf x k) vs1) (wipeG (Γe x) vs1))
    (hp : ∀ x ∈ xs, ∀ k, k < m x → ∀ H0' Oc' s0 H00 C cl fp, Ets (blkX X scope s0 H00 C cl fp) H0' Oc' (Γf x k) ifs (pr x k))
    (he : ∀ x ∈ xs, ∀ k, k < m x → pr x k = true → ∀ H0' Oc' s0 H00 C cl fp, Ev (blkX X scope s0 H00 C cl fp) H0' Oc' (Γf x k) elt (.va (g x k)))
    (q : ∀ v H', Wf X.K H0 Oc (.ow (.lst (xs.flatMap (part2 m pr g))) :: (Δ ++ Γ)) (some v :: (τ ++ σ)) H' → Q v H') : tLc2 wi (wG X scope tg) tYes (iRng1 (tCons (wE X scope b) tNil)) (wG X scope tg1) (wT X scope ifs) (wE X scope elt) (own.map (·.2)) vs1 σ H Q := by
  refine hwi Δ τ σ H _ hl w fun J Δh τh H1 ok harg w1 => fun Dl hD => ?_
  obtain ⟨O, w1⟩ := w1
  have ok := ok H1 O
  have w1o : WfO X.K H0 Oc O (Δ ++ Γ) (τ ++ σ) H1 := w1.drop ok.len
  have wb0 := w1.toArg'
  rw [List.map_append, harg, List.map_append] at wb0
  have hl3 : (τh ++ τ).length = (Δh ++ Δ.map Sl.arg).length := by simp [hl, ok.len]
  let vs := own.map (·.2)
  let Γw := wipeG (Γ.map Sl.arg) vs
  let A := Δh ++ Δ.map Sl.arg
  let B := τh ++ τ
  have wb : Wf X.K H1 O (A ++ Γw) (B ++ wipe σ vs) H1 := by
    rw [app3, app3] at wb0
    exact wb0.wiped hl3 _
  let res : Nat → List D := fun i => (xs.take i).flatMap (part2 m pr g)
  have resl : ∀ i, (res i).length ≤ 1000000 := fun i => by
    refine Nat.le_trans ?_ hn
    have e : xs.flatMap (part2 m pr g) = res i ++ (xs.drop i).flatMap (part2 m pr g) := by
      show _ = (xs.take i).flatMap _ ++ _
      rw [← List.flatMap_append, List.take_append_drop]
    rw [e, List.length_append]
    exact Nat.le_add_right _ _
  have stA : stab A = true := by rw [stab_app, ok.st, stab_arg]; rfl
  refine ⟨fun i z H => z = xs.length - i ∧ i ≤ xs.length ∧ Wf X.K H1 O (.ow (.lst (res i)) :: (A ++ Γw)) (some (.ref Dl) :: (B ++ wipe σ vs)) H, ⟨xs.length, by simp, Nat.zero_le _, ?_⟩, ?_⟩
  · obtain ⟨O', wb⟩ := wb
    exact ⟨_, wb.newLst hD Reps.nil⟩
  rintro i z H2 ⟨rfl, hi, w2⟩
  by_cases hlt : i < xs.length
  · have w2' : Wf X.K H1 O ([.ow (.lst (res i))] ++ (Δh ++ (Δ.map Sl.arg ++ Γw))) ([some (.ref Dl)] ++ (τh ++ (τ ++ wipe σ vs))) H2 := by
      rw [app3 (a := Δh), app3 (a := τh)]
      exact w2
    obtain ⟨g1, g2⟩ := ok.go i [_] _ [_] _ H2 rfl (by simpa using hlt) w2'
    refine .inr ⟨g1, fun H' => Wf X.K H1 O (.ow (.lst (res (i + 1))) :: (A ++ Γw)) (some (.ref Dl) :: (B ++ wipe σ vs)) H', fun H' q1 => ⟨xs.length - (i + 1), by omega, rfl, hlt, q1⟩, fun yv H' yy => ?_⟩
    obtain ⟨d, hd, w3⟩ := g2 yv H' yy
    have ex : xs[i]? = some xs[i] := List.getElem?_eq_getElem hlt
    generalize xs[i] = x at ex
    have hx : x ∈ xs := List.mem_of_getElem? ex
    rw [List.getElem?_map, ex] at hd
    have hd' := Option.some.inj hd
    subst hd'
    have hres : res (i + 1) = res i ++ part2 m pr g x := by
      show (xs.take (i + 1)).flatMap _ = (xs.take i).flatMap _ ++ _
      rw [List.take_add_one, ex, List.flatMap_append]
      simp
    have w3' : Wf X.K H1 O (.va (enc x) :: ((.ow (.lst (res i)) :: A) ++ Γw)) (some yv :: ((some (.ref Dl) :: B) ++ wipe σ vs)) H' := by
      have e1 : [Sl.ow (.lst (res i))] ++ (Δh ++ (Δ.map Sl.arg ++ Γw)) = (.ow (.lst (res i)) :: A) ++ Γw := by
        show _ :: (Δh ++ (Δ.map Sl.arg ++ Γw)) = _ :: ((Δh ++ Δ.map Sl.arg) ++ Γw)
        rw [app3]
      have e2 : [some (V.ref Dl)] ++ (τh ++ (τ ++ wipe σ vs)) = (some (.ref Dl) :: B) ++ wipe σ vs := by
        show _ :: (τh ++ (τ ++ wipe σ vs)) = _ :: ((τh ++ τ) ++ wipe σ vs)
        rw [app3]
      rw [e1, e2] at w3
      exact w3
    have hlA : ∀ r : List D, (some (V.ref Dl) :: B).length = (Sl.ow (.lst r) :: A).length := fun _ => congrArg Nat.succ hl3
    obtain ⟨st1, st2⟩ := hst x hx
    refine fun s0 H00 C cl fp => ht x hx H1 O s0 H00 C cl fp (.ow (.lst (res i)) :: A) (some (.ref Dl) :: B) _ H' yv _ (hlA _) w3' fun σ2 H3 hw2 w4 => ?_
    rw [wipe_wipe] at hw2
    refine ⟨hw2, ?_⟩
    simp only [tYes, if_true]
    refine fun s0 H00 C cl fp => hb x hx H1 O s0 H00 C cl fp (.ow (.lst (res i)) :: A) (some (.ref Dl) :: B) σ2 H3 _ (hlA _) w4 fun v H4 ⟨O4, w5⟩ => ?_
    obtain ⟨v', e1, r1⟩ := w5.head
    cases e1
    obtain rfl : v = .int (m x : Int) := r1
    have hmx := hm x hx
    refine ⟨(m x : Int), rfl, by omega, by omega, ?_⟩
    let pt : Nat → List D := fun j => res i ++ ((List.range j).filter (pr x)).map (g x)
    have w6 : Wf X.K H1 O ((.ow (.lst (pt 0)) :: A) ++ wipeG (Γe x) vs1) ((some (.ref Dl) :: B) ++ wipe σ2 vs1) H4 := by
      have e : pt 0 = res i := by show res i ++ _ = _; simp
      rw [e]
      have w5' : Wf X.K H1 O ((.ow (.lst (res i)) :: A) ++ Γe x) ((some (.ref Dl) :: B) ++ σ2) H4 := ⟨O4, w5.pop⟩
      exact Wf.wiped (hlA _) w5' _
    refine ⟨fun j z H => z = m x - j ∧ j ≤ m x ∧ Wf X.K H1 O ((.ow (.lst (pt j)) :: A) ++ wipeG (Γe x) vs1) ((some (.ref Dl) :: B) ++ wipe σ2 vs1) H, ⟨m x, by simp, Nat.zero_le _, w6⟩, ?_⟩
    rintro j z H5 ⟨rfl, hj, w7⟩
    by_cases hjl : j < m x
    · refine .inr ⟨hjl, fun H' => Wf X.K H1 O ((.ow (.lst (pt (j + 1))) :: A) ++ wipeG (Γe x) vs1) ((some (.ref Dl) :: B) ++ wipe σ2 vs1) H', fun H' q1 => ⟨m x - (j + 1), by omega, rfl, hjl, q1⟩, fun v H' yy => ?_⟩
      obtain ⟨eH, ev⟩ := yy
      subst eH
      have ev : v = .int (j : Int) := by rw [ev, Int.zero_add]
      subst ev
      obtain ⟨sf1, sf2⟩ := hst1 x hx j hjl
      have hpt : pt (j + 1) = if pr x j = true then pt j ++ [g x j] else pt j := by
        show res i ++ ((List.range (j + 1)).filter (pr x)).map (g x) = if pr x j = true then (res i ++ ((List.range j).filter (pr x)).map (g x)) ++ [g x j] else res i ++ ((List.range j).filter (pr x)).map (g x)
        rw [List.range_succ, List.filter_append]
        cases hp' : pr x j <;> simp [hp']
      have hlp : (pt j).length ≤ 1000000 := by
        refine Nat.le_trans ?_ (resl (i + 1))
        rw [hres]
        show (res i ++ _).length ≤ _
        rw [List.length_append, List.length_append]
        refine Nat.add_le_add_left ?_ _
        unfold part2
        rw [List.length_map, List.length_map]
        have e : List.range (m x) = List.range j ++ (List.range' j (m x - j)) := by
          have := List.range'_append_1 (s := 0) (m := j) (n := m x - j)
          rw [Nat.zero_add, show j + (m x - j) = m x by omega] at this
          rw [List.range_eq_range', List.range_eq_range', this]
        rw [e, List.filter_append, List.length_append]
        exact Nat.le_add_right _ _
      obtain ⟨O7, w7'⟩ := w7
      have w8 : Wf X.K H1 O (.va (.int (j : Int)) :: ((.ow (.lst (pt j)) :: A) ++ wipeG (Γe x) vs1)) (some (.int (j : Int)) :: ((some (.ref Dl) :: B) ++ wipe σ2 vs1)) H' := ⟨O7, w7'.flat rfl (show Rep X.K H' (.int (j : Int)) (.int (j : Int)) from rfl)⟩
      refine fun s0 H00 C cl fp => ht1 x hx j hjl H1 O s0 H00 C cl fp (.ow (.lst (pt j)) :: A) (some (.ref Dl) :: B) _ H' _ _ (hlA _) w8 fun σ3 H6 hw3 w9 => ?_
      rw [wipe_wipe] at hw3
      refine ⟨hw3, ?_⟩
      have back : ∀ {r : List D} {H7 : Hp}, Wf X.K H1 O ((.ow (.lst r) :: A) ++ Γf x j) ((some (.ref Dl) :: B) ++ σ3) H7 → Wf X.K H1 O ((.ow (.lst r) :: A) ++ wipeG (Γe x) vs1) ((some (.ref Dl) :: B) ++ wipe σ2 vs1) H7 := fun {r H7} w => by
        have z := (w.wiped (hlA r) vs1).sub (Sub.app sf2)
        rw [hw3] at z
        exact z
      have cont : ∀ (bb : Bool) (H7 : Hp), bb = pr x j → Wf X.K H1 O ((.ow (.lst (pt j)) :: A) ++ Γf x j) ((some (.ref Dl) :: B) ++ σ3) H7 →
          (if bb = true then wE X scope elt σ3 H7 fun y H8 => ∃ acc, H8 Dl = some (.lst acc) ∧ acc.length < sizeLine ∧ Wf X.K H1 O ((.ow (.lst (pt (j + 1))) :: A) ++ wipeG (Γe x) vs1) ((some (.ref Dl) :: B) ++ wipe σ2 vs1) (upd H8 Dl (.lst (acc ++ [y])))
            else Wf X.K H1 O ((.ow (.lst (pt (j + 1))) :: A) ++ wipeG (Γe x) vs1) ((some (.ref Dl) :: B) ++ wipe σ2 vs1) H7) := fun bb H7 hbb wx => by
        subst hbb
        cases hpx : pr x j with
        | false =>
          rw [hpt, hpx]
          exact back wx
        | true =>
          refine fun s0 H00 C cl fp => he x hx j hjl hpx H1 O s0 H00 C cl fp (.ow (.lst (pt j)) :: A) (some (.ref Dl) :: B) σ3 H7 _ (hlA _) wx fun y' H8 ⟨O8, wy⟩ => ?_
          obtain ⟨pp, oo, e1, k2, k3, k4, k5⟩ := wy.pop.head
          cases e1
          obtain ⟨v', e2, rv⟩ := wy.head
          cases e2
          cases oo <;> first | exact k5.elim | skip
          rename_i us
          have k5' : Reps X.K (cut H8 O8) (pt j) us := k5
          refine ⟨us, k4, ?_, ?_⟩
          · rw [k5'.len, sizeLine_eq]
            omega
          · rw [hpt, hpx]
            refine back ⟨O8, ?_⟩
            have z := wy.pop.mut (i := 0) (d' := .lst (pt j ++ [g x j])) (o' := .lst (us ++ [y'])) (by
              show stab ((Sl.ow (.lst (pt j)) :: A) ++ Γf x j) = true
              rw [stab_app, sf1, stab_cons, stA]
              rfl) rfl rfl (k5'.app (Reps.one rv))
            exact z
      have tst := hp x hx j hjl
      match ifs, tst with
      | [], tst => exact cont true H6 (tst H1 O s0 H00 C cl fp).symm w9
      | [c], tst => exact fun s0 H00 C cl fp => tst H1 O s0 H00 C cl fp (.ow (.lst (pt j)) :: A) (some (.ref Dl) :: B) σ3 H6 _ (hlA _) w9 fun H7 wx => cont _ H7 rfl wx
      | _ :: _ :: _, tst => exact (tst H1 O s0 H00 C cl fp).elim
    · have e : j = m x := by omega
      subst e
      refine .inl ⟨by show (m x : Int).toNat ≤ m x; omega, ?_⟩
      have ep : pt (m x) = res (i + 1) := by rw [hres] <;> rfl
      rw [← ep]
      have z := (w7.wiped (hlA _) vs).sub (Sub.app st2)
      rw [wipe_sub hv, hw2] at z
      exact z
  · have e : i = xs.length := by omega
    subst e
    have w2' : Wf X.K H1 O ([.ow (.lst (res xs.length))] ++ (Δh ++ (Δ.map Sl.arg ++ Γw))) ([some (.ref Dl)] ++ (τh ++ (τ ++ wipe σ vs))) H2 := by
      rw [app3 (a := Δh), app3 (a := τh)]
      exact w2
    refine .inl ⟨ok.stop _ [_] _ [_] _ H2 rfl (by simp) w2', ?_⟩
    have w3 := w2.only
    have e : res xs.length = xs.flatMap (part2 m pr g) := by
      show (xs.take xs.length).flatMap _ = _
      rw [List.take_length]
    rw [e] at w3
    exact q _ H2 (w1o.after w3 rfl)
/-- y = [elt for tg in iter for tg1 in range(b) if ..] -/
theorem d_setLc2 {α : Type} (n : Nat) (xs : List α) (enc : α → D) (m : α → Nat) (pr : α → Nat → Bool) (g : α → Nat → D) (Γe : α → List Sl) (Γf : α → Nat → List Sl) (hc : X.calm = true) (hN : X.N.Nodup) (hmg : X.mg "range" = none) (ok : BlkOk X.N X.env.scope scope own) (hi : Ei X H0 Oc Γ tg iter (xs.map enc))
    (hn : (xs.flatMap (part2 m pr g)).length ≤ 1000000) (hm : ∀ x ∈ xs, m x ≤ 1000000) (hv : ∀ i ∈ vs1, i ∈ own.map (·.2))
    (ht : ∀ x ∈ xs, ∀ H0' Oc' s0 H00 C cl fp, Tgw (blkX X scope s0 H00 C cl fp) H0' Oc' (own.map (·.2)) tg (wipeG (Γ.map Sl.arg) (own.map (·.2))) (.va (enc x)) (Γe x))
    (hst : ∀ x ∈ xs, stab (Γe x) = true ∧ Sub (wipeG (wipeG (Γe x) vs1) (own.map (·.2))) (wipeG (Γ.map Sl.arg) (own.map (·.2))))
    (hb : ∀ x ∈ xs, ∀ H0' Oc' s0 H00 C cl fp, Ev (blkX X scope s0 H00 C cl fp) H0' Oc' (Γe x) b (.va (.int (m x : Int))))
    (ht1 : ∀ x ∈ xs, ∀ k, k < m x → ∀ H0' Oc' s0 H00 C cl fp, Tgw (blkX X scope s0 H00 C cl fp) H0' Oc' vs1 tg1 (wipeG (Γe x) vs1) (.va (.int (k : Int))) (Γf x k))
    (hst1 : ∀ x ∈ xs, ∀ k, k < m x → stab (Γf x k) = true ∧ Sub (wipeG (Γf x k) vs1) (wipeG (Γe x) vs1))
    (hp : ∀ x ∈ xs, ∀ k, k < m x → ∀ H0' Oc' s0 H00 C cl fp, Ets (blkX X scope s0 H00 C cl fp) H0' Oc' (Γf x k) ifs (pr x k))
    (he : ∀ x ∈ xs, ∀ k, k < m x → pr x k = true → ∀ H0' Oc' s0 H00 C cl fp, Ev (blkX X scope s0 H00 C cl fp) H0' Oc' (Γf x k) elt (.va (g x k)))
    (hr : Sds X W H0 Oc (Γ.set n (.ow (.lst (xs.flatMap (part2 m pr g))))) rest out)
    (hgl : ∀ s0 H00 C cl fp, Gl (blkX X scope s0 H00 C cl fp) "range" := by intros; rfl) (hs1 : ∀ s0 H00 C cl fp, starEach [b] (blkX X scope s0 H00 C cl fp).env = [(false, eval b (blkX X scope s0 H00 C cl fp).env)] := by intros; rfl) (hs2 : ∀ s0 H00 C cl fp, starEach [b] (blkX X scope s0 H00 C cl fp).env = (false, eval b (blkX X scope s0 H00 C cl fp).env) :: starEach [] (blkX X scope s0 H00 C cl fp).env := by intros; rfl)
    (hy : X.N[n]? = some y := by rfl) (hyl : X.env.scope.names.lookup y = some .local := by rfl)
    (hsw : swapsWith (.ListComp elt [⟨tg, iter, [], 0⟩, ⟨tg1, .Call (.Name "range" p1) [b] [] p2, ifs, 0⟩] scope pos) (some (.Name y p)) pos'.line X.env = pure true := by rfl)
    (hs : ∀ x, foldedSetIterable iter X.env x = pure x := by intro _; rfl) (hf2 : ∀ env x, foldedSetIterable (.Call (.Name "range" p1) [b] [] p2) env x = pure x := by intro _ _; rfl) :
    Sds X W H0 Oc Γ (.Assign [.Name y p] (.ListComp elt [⟨tg, iter, [], 0⟩, ⟨tg1, .Call (.Name "range" p1) [b] [] p2, ifs, 0⟩] scope pos) pos' :: rest) out := fun Δ τ σ H D hl st w k => by
  obtain ⟨wi, hpi, hwi⟩ := hi
  refine wpSs.of (pss_cons (ps_setLc2 (g := wG X scope tg) (tt := tYes) (wi1 := iRng1 (tCons (wE X scope b) tNil)) (g1 := wG X scope tg1) (tt1 := wT X scope ifs) (te := wE X scope elt) hc hN hy hyl hsw hpi ok hv
    (fun s0 H00 C cl fp => ⟨fun pins s σ H v u Q I r h => h s0 H00 C cl fp pins s u I r⟩) (fun _ _ _ _ _ => pts_nil) (fun s0 H00 C cl fp => pi_range1 (hgl s0 H00 C cl fp) hmg (pa_cons ⟨fun pins s σ H Q I h => h s0 H00 C cl fp pins s I⟩ pa_nil (hs2 s0 H00 C cl fp)) (hs1 s0 H00 C cl fp))
    (fun s0 H00 C cl fp => ⟨fun pins s σ H v u Q I r h => h s0 H00 C cl fp pins s u I r⟩) (fun s0 H00 C cl fp => pts_wT) (fun s0 H00 C cl fp => ⟨fun pins s σ H Q I h => h s0 H00 C cl fp pins s I⟩) hs hf2) pss_wp) ?_
  exact lc2_run xs enc m pr g Γe Γf hl w hwi hn hm hv ht hst hb ht1 hst1 hp he fun v H1 ⟨O, w1⟩ => hr Δ τ _ H1 D hl st ⟨O, w1.set hl⟩ k
end
end Y

namespace Ht
open PySem PySem.Spec PyProof.Rows L2 HotX L2H
/-! ## within an except suite: a list's iterator ends; all(..) of a list -/
section
variable {prog : Program} {w : World} {A : Around} {E : Value → Shared → Prop} {z : Shared}
theorem list_stop {itr ls xx : Addr} {k : Nat} {its : Array Value} {Q : Option Value → Shared → Prop} (hot : HotAt A xx z.heap) (hit : z.heap.IsListIter itr ls k) (hls : z.heap.IsList ls its) (hk : its[k]? = none) (nx : xx ≠ itr)
    (hQ : ∀ h', (∀ b u, b ≠ itr → z.heap.get? b = some u → h'.get? b = some u) → Q none { z with heap := h' }) : wpAny (model prog w) A (pyNext (.ref itr)) Q E z := by
  obtain ⟨oi, hoi, hci, hdi⟩ := id hit
  obtain ⟨ol, hol, _, nl, hdl⟩ := hls
  obtain ⟨hh, o1, vs1, h1, d1, c1⟩ := hot
  unfold pyNext
  refine wpAny_bind (wpAny_attempt (wpAny_callSpecial?_slot (name := Str.ofString "__next__") hit.typeIs slot_listiter_next (wpAny_call_entry slot_listiter_next hit.typeIs entry_listiter_next ?_ (args_listiter_next _))))
  show wpAny _ _ (field (.ref itr) 0 >>= _) _ _ z
  refine wpAny_bind (wpAny_field hoi hdi (x := .ref ls) rfl ?_)
  show wpAny _ _ (if (Value.ref ls == Value.none) = true then _ else _) _ _ z
  rw [if_neg (show ¬ ((Value.ref ls == Value.none) = true) from Bool.false_ne_true)]
  show wpAny _ _ (field (.ref itr) 1 >>= _) _ _ z
  refine wpAny_bind (wpAny_field hoi hdi (x := .int k 0) rfl ?_)
  show wpAny _ _ (seqItems? (.ref ls) >>= _) _ _ z
  refine wpAny_bind (wpAny_seqItems hol hdl ?_)
  simp only [Int.toNat_natCast, hk]
  refine wpAny_bind (wpAny_rule (wpAny_bind (wpAny_setField hoi hdi (by simp) ?_)))
  refine wpAny_bind (m := newExc (.type "StopIteration") []) ?_
  simp only [newExc, newTuple]
  refine wpAny_bind (wpAny_newObj_type ?_ (by size_fits))
  refine wpAny_bind (m := firstArgMember _ _) (wpAny_of_eq (a := Value.none) (by first | rfl | (simp only [firstArgMember]; rfl)) ?_)
  refine wpAny_newObj_type ?_ (by size_fits)
  have h1' : (z.heap.update itr (Obj.mapFields (·.setIfInBounds 0 .none))).get? xx = some o1 := by rw [Heap.get?_update_other _ _ nx.symm]; exact h1
  refine raiseNew_hot ⟨hh, o1, vs1, Heap.get?_push_of_some _ (Heap.get?_push_of_some _ h1'), d1, c1⟩ (Nat.ne_of_lt (Heap.lt_size (Heap.get?_push_of_some _ h1'))) (Heap.get?_push_size _ rfl) rfl (by first | (simp; done) | (simp; omega)) ?_
  refine wpAny_bind (wpAny_isInstance (T := "StopIteration") (b := true) ⟨_, Heap.get?_update_self _ (Heap.get?_push_size _ rfl) rfl, rfl⟩ isSubtype_stop ?_)
  refine wpAny_pure (hQ _ fun b u nb e => ?_)
  have e' : (z.heap.update itr (Obj.mapFields (·.setIfInBounds 0 .none))).get? b = some u := by rw [Heap.get?_update_other _ _ nb.symm]; exact e
  rw [Heap.get?_update_other _ _ (Nat.ne_of_gt (Heap.lt_size (Heap.get?_push_of_some _ e')))]
  exact Heap.get?_push_of_some _ (Heap.get?_push_of_some _ e')
theorem walks_hot (J ax xx : Addr) (hne : ax ≠ J) (hnx : xx ≠ J) (its : Array Value) : Walks prog w A J [J, ax, xx] [J] its.size (fun i v => its[i]? = some v) (fun i h => h.IsListIter J ax i ∧ h.IsList ax its ∧ HotAt A xx h) where
  sub := fun b hb => by simp at hb; simp [hb]
  frame := fun _ _ _ st k => ⟨st.1.at fun o e => k J (by simp) o e, st.2.1.at fun o e => k ax (by simp) o e, let ⟨q1, o, us, q2, q3, q4⟩ := st.2.2; ⟨q1, o, us, k xx (by simp) o q2, q3, q4⟩⟩
  item := fun i s Q E hi st hQ => by
    refine wpAny_pyNext_list_item st.1 st.2.1 (x := its[i]) (by simp [hi]) fun g hit' sb => ?_
    obtain ⟨q1, o, us, q2, q3, q4⟩ := st.2.2
    exact hQ _ g s.toks (by simp [hi]) ⟨hit', st.2.1.extBut sb.extBut hne, q1, o, us, sb.extBut xx o hnx q2, q3, q4⟩ fun b u nb e => sb.extBut b u (fun q => nb (by simp [q])) e
  done := fun s Q E st hQ => list_stop st.2.2 st.1 st.2.1 (by simp) hnx fun g k => hQ g s.toks fun b u nb e => k b u (fun q => nb (by simp [q])) e
  self := fun _ _ _ _ st hQ => wpAny_pyIter_listiter st.1 hQ
end
theorem cr_allH {X : Cx} (hc : HotC X) : CallR X (.builtin "all") (rAll X.K) := by
  intro pins s σ H vs us Q I r ⟨a, bs, e0, hs, q⟩
  subst e0
  obtain ⟨its, rv, hl, _⟩ := I.list hs
  obtain ⟨xx, hot⟩ := hc.at I
  rw [Vals.ref1 r]
  have hb := rv.bls
  have xlt : xx < s.heap.objs.size := by obtain ⟨_, o, _, e, _⟩ := hot; exact Heap.lt_size e
  refine call_all_walk (iter_any hl.isList fun s₂ e2 st hne => ?_)
  subst e2
  obtain ⟨q1, o, ys, q2, q3, q4⟩ := hot
  refine ⟨_, _, _, _, _, _, _, rfl, walks_hot (A := X.A.in1) _ a xx hne (Nat.ne_of_lt xlt) its.toArray, ⟨st.1, st.2, q1, o, ys, Heap.get?_push_of_some _ q2, q3, q4⟩, truth_bools hb, fun h' tk hk => ?_⟩
  refine ⟨.bl _, H, I.kept fun b u eo => hk b u (fun m => ?_) (Heap.get?_push_of_some _ eo), ?_, q⟩
  · rcases List.mem_cons.mp m with e1 | m
    · exact absurd (e1 ▸ Heap.lt_size eo) (Nat.lt_irrefl _)
    · cases m
  · show Value.bool _ = Value.bool _
    rw [← L2.all_range, hb, List.size_toArray, List.length_map]
end Ht

namespace Ht
open PySem PySem.Spec PyProof.Rows L2 HotX L2H
/-! ## a list comprehension over a range within an except suite -/
/-- the block's context, the handled exception pinned -/
abbrev hblk (X : Cx) (p : Addr × Obj) (s : Shared) (H : Hp) (scope : Scope) (cenv : Env) (fp : List Addr) : Cx := { X.blk s H scope cenv fp with pn := [p] }
theorem hot_blk {X : Cx} {p : Addr × Obj} (h : Hot1 X.A p) {s : Shared} {H : Hp} {scope : Scope} {cenv : Env} {fp : List Addr} : HotC (hblk X p s H scope cenv fp) := ⟨p, h, List.mem_cons_self⟩
section
variable {X : Cx}
theorem lc_hot {p : Addr × Obj} {pins : List (Addr × Obj)} {s : Shared} {σ : L2.St} {H : Hp} {Q : VK} {elt tg iter : Expr} {ifs : List Expr} {scope : Scope} {own : List (Str × Nat)} {pos pos' : Pos} {wi : TI} {g : TG} {tt : TT} {te : TE} {use : Option (Value → Sem Unit)} {Qf : Value → Shared → Prop}
    (h1 : Hot1 X.A p) (hp : p ∈ X.pn) (nd : X.N.Nodup) (I : Inv X pins σ H s) (hi : PIH X tg iter wi) (ok : BlkOk X.N X.env.scope scope own)
    (hg : ∀ s H C cl fp, PG (hblk X p s H scope (compEnvC scope cl C X.env) fp) tg g) (ht : ∀ s H C cl fp, PTs (hblk X p s H scope (compEnvC scope cl C X.env) fp) ifs tt) (he : ∀ s H C cl fp, PE (hblk X p s H scope (compEnvC scope cl C X.env) fp) elt te)
    (hs : ∀ x, foldedSetIterable iter X.env x = pure x) (want : tLc wi g tt te (own.map (·.2)) σ H Q)
    (hRR : ∀ D C s' m H', Inv X pins σ H' s' → Q (.ref D) H' → s'.heap.Ns C m → FpOk X pins H' C → compPost (model X.prog X.w) X.A X.xe use Qf (.ref D) C (.ok .next) s') :
    wpAny (model X.prog X.w) X.A (comprehension (.ListComp elt [⟨tg, iter, ifs, 0⟩] scope pos) scope X.env pos' (newList []) false (eval iter X.env) use) Qf X.xe s := by
  have cellsAt : ∀ y ∈ scope.names, y.2 = .free → ∃ c, X.env.cells.lookup y.1 = some c := fun y hy e => (ok.free y hy e).elim (fun k => I.ok.has _ (.inl k)) fun k => I.ok.has _ (.inr k)
  refine wpAny_comprehension_free (use := use) rfl hs (closure_ok cellsAt) ok.kind (fun y hy e => by rw [ok.uniq y hy, e]) (thn (hi.run pins s σ H _ I want) fun xv z1 hx => thn hx fun itv z2 got => ?_)
  obtain ⟨itr, fp, tn, J, H2, e, I2, T, t2, f2, q⟩ := got
  subst e
  refine wpAny_newObj_type (newEnv_comp ?_) (by show 0 ≤ sizeLine; decide)
  generalize hD : z2.heap.objs.size = D
  obtain ⟨W, ⟨m0, w0⟩, turn⟩ := q D (I2.hok.fresh (Nat.le_of_eq hD))
  generalize hz3 : ({ z2 with heap := z2.heap.push { cls := .type "list", data := .seq ([] : List Value).toArray } } : Shared) = z3
  have hz3' : z3.heap = z2.heap.push { cls := .type "list", data := .seq ([] : List Value).toArray } := by rw [← hz3]
  have I3 : Inv X pins σ (upd H2 D (.lst [])) z3 := by
    rw [← hz3]
    refine I2.laid (t' := z2.toks) (fun b o e => Heap.get?_push_of_some _ e) (Nat.le_of_eq hD) ⟨Nat.zero_le _, [], 0, .nil, ?_⟩
    rw [← hD]
    exact Heap.get?_push_size _ rfl
  have f3 : ∀ b ∈ fp, FpOk X pins (upd H2 D (.lst [])) b ∧ b < z3.heap.objs.size := fun b hb => by
    obtain ⟨o, e, _⟩ := T.obj _ _ t2 b hb
    have lt := Heap.lt_size e
    refine ⟨⟨?_, (f2 b hb).2⟩, by rw [hz3', Heap.size_push]; exact Nat.lt_succ_of_lt lt⟩
    rw [upd_ne (by rw [← hD]; exact Nat.ne_of_lt lt)]
    exact (f2 b hb).1
  have t3 : tn 0 z3.heap := T.keep _ _ _ t2 fun b _ o e => by rw [hz3']; exact Heap.get?_push_of_some _ e
  have I4 := block_start I3 ok nd f3
  let cl0 := cellsFrom (z3.heap.objs.size + 1) scope.names (cloFrom X.env.cells scope.names [])
  have pg := hg z3 (upd H2 D (.lst [])) z3.heap.objs.size cl0 fp
  have pt := ht z3 (upd H2 D (.lst [])) z3.heap.objs.size cl0 fp
  have pe := he z3 (upd H2 D (.lst [])) z3.heap.objs.size cl0 fp
  show codeAny _ _ (.compStart (.ListComp elt [⟨tg, iter, ifs, 0⟩] scope pos) 0 (.ref itr) (.ref D) (compEnvC scope cl0 z3.heap.objs.size X.env)) (compPost (model X.prog X.w) X.A X.xe use Qf (.ref D) z3.heap.objs.size) { z3 with heap := pushCells (z3.heap.push { cls := .type "dict", data := .dict #[] }) scope.names }
  have nfp : ∀ b ∈ fp, (upd H2 D (.lst [])) b = none := fun b hb => (f3 b hb).1.1
  have pinP := I3.pin p (List.mem_append_left _ hp)
  have pfp : ∀ b ∈ fp, p.1 ≠ b := fun b hb => (f3 b hb).1.2.2.2.2.2 p (List.mem_append_left _ hp)
  -- the exception is pinned within the block too
  have J4 : Inv (hblk X p z3 (upd H2 D (.lst [])) scope (compEnvC scope cl0 z3.heap.objs.size X.env) fp) [] (wipe σ (own.map (·.2))) (upd H2 D (.lst [])) { z3 with heap := pushCells (z3.heap.push { cls := .type "dict", data := .dict #[] }) scope.names } := by
    refine ⟨⟨I4.ok.mod, I4.ok.kind, I4.ok.glob, I4.ok.blt, I4.ok.above, I4.ok.inj, I4.ok.has, I4.ok.cab, I4.ok.hd, I4.ok.frames, I4.ok.stk, I4.ok.exf, I4.ok.bs, I4.ok.bsz, I4.ok.noex, I4.ok.exfs, I4.ok.funs, I4.ok.frf⟩, I4.os, I4.bare, I4.base, I4.loc, I4.cell, I4.free, I4.freeC, fun b hb => ?_, I4.hok, I4.len⟩
    have e : b = p := by simpa using hb
    subst e
    refine ⟨pushCells_keeps _ _ _ _ (Heap.get?_push_of_some _ pinP.1), pinP.2.1, Nat.ne_of_lt (Heap.lt_size pinP.1), fun m => ?_, pinP.2.2.2.2⟩
    rcases I.ok.stk with k | ⟨k, k2⟩
    · exact pinP.2.2.2.1 (by have m' : b.1 ∈ frs X.stack := m; rw [k] at m'; exact m')
    · have m' : b.1 ∈ frs X.stack := m
      rw [k] at m'
      obtain ⟨en, q1, q2⟩ := List.mem_filterMap.mp m'
      rcases List.mem_cons.mp q1 with rfl | q1
      · rw [k2] at q2
        exact pinP.2.2.1 (Option.some.inj q2).symm
      · exact pinP.2.2.2.1 (List.mem_filterMap.mpr ⟨en, q1, q2⟩)
  clear I4
  generalize hce : compEnvC scope cl0 z3.heap.objs.size X.env = ce at J4 pg pt pe ⊢
  have cL : ce.locals = z3.heap.objs.size := by subst hce; rfl
  generalize hH3 : upd H2 D (.lst []) = H3 at I3 J4 pg pt pe w0 nfp f3
  generalize hz4 : ({ z3 with heap := pushCells (z3.heap.push { cls := .type "dict", data := .dict #[] }) scope.names } : Shared) = z4 at J4 ⊢
  have t4 : tn 0 z4.heap := T.keep _ _ _ t3 fun b _ o e => by rw [← hz4]; exact pushCells_keeps _ _ _ _ (Heap.get?_push_of_some _ e)
  have hotB : HotC (hblk X p z3 H3 scope ce fp) := hot_blk h1
  have stat : ∀ {σ' : L2.St} {H' : Hp} {s' : Shared}, Inv (hblk X p z3 H3 scope ce fp) [] σ' H' s' → (∀ b ∈ fp, H' b = none) → ∀ b ∈ fp, FpOk (hblk X p z3 H3 scope ce fp) [] H' b := fun {σ' H' s'} I' hn b hb =>
    ⟨hn b hb, (I'.ok.exf b hb).1, I'.ok.exfs b hb, .inl hb, fun x c e => (I'.ok.exf b hb).2 x c e, fun y hy => by
      have e : y = p := by simpa using hy
      rw [e]
      exact pfp b hb⟩
  have loop : codeAny (model X.prog X.w) X.A (.compLoop (.ListComp elt [⟨tg, iter, ifs, 0⟩] scope pos) 0 (.ref itr) (.ref D) ce) (compPost (model X.prog X.w) X.A X.xe use Qf (.ref D) z3.heap.objs.size) z4 := by
    refine compLoop_any (fun n s' => ∃ i H', Inv (hblk X p z3 H3 scope ce fp) [] (wipe σ (own.map (·.2))) H' s' ∧ tn i s'.heap ∧ (∀ b ∈ fp, H' b = none) ∧ W i n H') ?_ m0 ⟨0, H3, J4, t4, nfp, w0⟩
    rintro n z5 ⟨i, H5, I5, t5, n5, w5⟩
    rcases turn i n H5 w5 with ⟨stop, qq⟩ | ⟨go, Nx, hNx, step⟩
    · refine thnF (T.done (hblk X p z3 H3 scope ce fp) rfl rfl rfl hotB i [] z5 _ H5 (fun _ _ => False) I5 (stat I5 n5) t5 stop) fun r z6 ⟨hr, I6⟩ => ?_
      subst hr
      have I7 : Inv X pins σ H5 z6 := I3.call' (ch := fp) I6.os I6.base I6.hok I6.bare fun b hb => ⟨(f3 b hb).1.2.2.2.1, (f3 b hb).1.2.1, (f3 b hb).1.2.2.2.2.1, (f3 b hb).1.2.2.2.2.2⟩
      have nC : H5 z3.heap.objs.size = none := cL ▸ I6.free
      obtain ⟨m, hn, _⟩ := I6.loc
      exact hRR D z3.heap.objs.size z6 m H5 I7 qq (cL ▸ (hn : z6.heap.Ns ce.locals m)) (I3.fpOk (Nat.le_refl _) nC)
    · refine thnF (T.item (hblk X p z3 H3 scope ce fp) rfl rfl rfl hotB i [] z5 _ H5 (fun _ _ => False) I5 (stat I5 n5) t5 go) fun r z6 ⟨u, hr, h6⟩ => ?_
      subst hr
      refine thnF h6 fun _ z7 ⟨x, H7, I7, r7, y7, t7, n7⟩ => ?_
      refine thnF (pg.run _ z7 _ H7 x u _ (I7.pinned (stat I7 n7) (T.obj _ _ t7)) r7 (step x H7 y7)) fun _ z8 ⟨σ8, H8, I8, hw8, q8⟩ => ?_
      refine thnF (pt.run _ z8 σ8 H8 _ I8 q8) fun b z9 ⟨H9, I9, q9⟩ => ?_
      have fin : ∀ {s' : Shared} {H' : Hp}, Inv (hblk X p z3 H3 scope ce fp) ([] ++ pinsAt fp z7.heap) σ8 H' s' → Nx H' → ∃ m, m < n ∧ ∃ i H', Inv (hblk X p z3 H3 scope ce fp) [] (wipe σ (own.map (·.2))) H' s' ∧ tn i s'.heap ∧ (∀ b ∈ fp, H' b = none) ∧ W i m H' := fun {s' H'} I' nx => by
        obtain ⟨m', hm, w'⟩ := hNx H' nx
        have still : ∀ b ∈ fp, ∀ o, z7.heap.get? b = some o → s'.heap.get? b = some o ∧ H' b = none := fun b hb o e =>
          ⟨(I'.pin (b, o) (List.mem_append_right _ (List.mem_append_right _ (mem_pinsAt hb e)))).1, (I'.pin (b, o) (List.mem_append_right _ (List.mem_append_right _ (mem_pinsAt hb e)))).2.1⟩
        refine ⟨m', hm, i + 1, H', (I'.unpinned (pins := [])).weak (by rw [← hw8, wipe_length]) (fun j v e => ?_), T.keep _ _ _ t7 fun b hb o e => (still b hb o e).1, fun b hb => ?_, w'⟩
        · rw [← hw8] at e
          exact (wipe_some e).1
        · obtain ⟨o, e, _⟩ := T.obj _ _ t7 b hb
          exact (still b hb o e).2
      cases b with
      | false =>
        simp only [Bool.false_eq_true, if_false] at q9 ⊢
        exact fin I9 q9
      | true =>
        simp only [if_true] at q9 ⊢
        refine thnF (pe.run _ z9 σ8 H9 _ I9 q9) fun _ z10 ⟨yv, H10, I10, r10, acc, hD10, hz10, nx⟩ => ?_
        exact app_ok (X := hblk X p z3 H3 scope ce fp) I10 hD10 hz10 r10 fun z11 I11 => fin I11 nx
  exact codeAny_compStart_list loop (T.self X.A 0 _ _ _ t4 loop)
theorem pe_lcHot {p : Addr × Obj} {elt tg iter : Expr} {ifs : List Expr} {scope : Scope} {own : List (Str × Nat)} {pos : Pos} {wi : TI} {g : TG} {tt : TT} {te : TE} (h1 : Hot1 X.A p) (hp : p ∈ X.pn) (nd : X.N.Nodup) (hi : PIH X tg iter wi) (ok : BlkOk X.N X.env.scope scope own)
    (hg : ∀ s H C cl fp, PG (hblk X p s H scope (compEnvC scope cl C X.env) fp) tg g) (ht : ∀ s H C cl fp, PTs (hblk X p s H scope (compEnvC scope cl C X.env) fp) ifs tt) (he : ∀ s H C cl fp, PE (hblk X p s H scope (compEnvC scope cl C X.env) fp) elt te)
    (hs : ∀ x, foldedSetIterable iter X.env x = pure x := by intro _; rfl) : PE X (.ListComp elt [⟨tg, iter, ifs, 0⟩] scope pos) (tLc wi g tt te (own.map (·.2))) := by
  refine ⟨fun pins s σ H Q I want => ?_⟩
  rw [eval_ListComp]
  refine lc_hot h1 hp nd I hi ok hg ht he hs want fun D C s' m H' I' q hn f => ⟨m, hn, fun h'' sb => ?_⟩
  obtain ⟨f0, f1, f2, f3, f4, f5⟩ := f
  exact ⟨.ref D, H', I'.turned (t' := s'.toks) (fun b o hb e => (sb.2 b hb).trans e) f0 f1 f3 f4 f5, rfl, q⟩
end
end Ht

namespace Y
open PySem L2
/-! ## within an except suite: [elt for tg in range(b)], all(..), calls -/
abbrev hbX (X : Cx) (p : Addr × Obj) (scope : Scope) (s : Shared) (H : Hp) (C : Addr) (cl : List (Str × Addr)) (fp : List Addr) : Cx := Ht.hblk X p s H scope (compEnvC scope cl C X.env) fp
section
variable {X : Cx} {W : WX} {H0 : Hp} {Oc : List Addr} {Γ : List Sl} {tg b elt a e : Expr} {pos p1 p2 pp : Pos} {scope : Scope} {own : List (Str × Nat)} {pn : Addr × Obj} {bs : List Bool}
theorem ev_lcHot {m : Nat} (g : Nat → D) (Γe : Nat → List Sl) (h1 : L2H.Hot1 X.A pn) (hp : pn ∈ X.pn) (hN : X.N.Nodup) (hmg : X.mg "range" = none) (ok : BlkOk X.N X.env.scope scope own) (ha : Ev X H0 Oc Γ b (.va (.int (m : Int)))) (hm : m ≤ 1000000)
    (ht : ∀ k, k < m → ∀ H0' Oc' s0 H00 C cl fp, Tgw (hbX X pn scope s0 H00 C cl fp) H0' Oc' (own.map (·.2)) tg (wipeG (Γ.map Sl.arg) (own.map (·.2))) (.va (.int (k : Int))) (Γe k))
    (hst : ∀ k, k < m → stab (Γe k) = true ∧ Sub (wipeG (Γe k) (own.map (·.2))) (wipeG (Γ.map Sl.arg) (own.map (·.2))))
    (he : ∀ k, k < m → ∀ H0' Oc' s0 H00 C cl fp, Ev (hbX X pn scope s0 H00 C cl fp) H0' Oc' (Γe k) elt (.va (g k)))
    (hgl : Gl X "range" := by rfl) (hs1 : starEach [b] X.env = [(false, eval b X.env)] := by rfl) (hs2 : starEach [b] X.env = (false, eval b X.env) :: starEach [] X.env := by rfl)
    (hs : ∀ x, foldedSetIterable (.Call (.Name "range" p1) [b] [] p2) X.env x = pure x := by intro _; rfl) :
    Ev X H0 Oc Γ (.ListComp elt [⟨tg, .Call (.Name "range" p1) [b] [] p2, [], 0⟩] scope pos) (.ow (.lst ((List.range m).map g))) := fun Δ τ σ H Q hl w q => by
  let wGH : TG := fun v σ H Q => ∀ s0 H00 C cl fp, wpG (hbX X pn scope s0 H00 C cl fp) tg v σ H Q
  let wEH : TE := fun σ H Q => ∀ s0 H00 C cl fp, wpE (hbX X pn scope s0 H00 C cl fp) elt σ H Q
  refine wpE.of (Ht.pe_lcHot (g := wGH) (te := wEH) h1 hp hN (L2H.pi_range1H hgl hmg (pa_cons pe_wp pa_nil hs2) hs1) ok (fun s0 H00 C cl fp => ⟨fun pins s σ H v u Q I r h => h s0 H00 C cl fp pins s u I r⟩) (fun _ _ _ _ _ => pts_nil) (fun s0 H00 C cl fp => ⟨fun pins s σ H Q I h => h s0 H00 C cl fp pins s I⟩) hs) ?_
  refine ha Δ τ σ H _ hl w fun v H1 ⟨O, w1⟩ => ?_
  obtain ⟨v', e1, r1⟩ := w1.head
  cases e1
  obtain rfl : v = .int (m : Int) := r1
  refine ⟨(m : Int), rfl, by omega, by omega, fun Dl hD => ?_⟩
  have w1o : WfO X.K H0 Oc O (Δ ++ Γ) (τ ++ σ) H1 := w1.pop
  have wb0 := w1o.toArg'
  rw [List.map_append] at wb0
  have hl3 : τ.length = (Δ.map Sl.arg).length := by simp [hl]
  let vs := own.map (·.2)
  let Γw := wipeG (Γ.map Sl.arg) vs
  let A := Δ.map Sl.arg
  have wb : Wf X.K H1 O (A ++ Γw) (τ ++ wipe σ vs) H1 := wb0.wiped hl3 _
  let res : Nat → List D := fun i => (List.range i).map g
  have stA : stab A = true := stab_arg
  have hlA : ∀ r : List D, (some (V.ref Dl) :: τ).length = (Sl.ow (.lst r) :: A).length := fun _ => congrArg Nat.succ hl3
  refine ⟨fun i z H => z = m - i ∧ i ≤ m ∧ Wf X.K H1 O ((.ow (.lst (res i)) :: A) ++ Γw) ((some (.ref Dl) :: τ) ++ wipe σ vs) H, ⟨m, by simp, Nat.zero_le _, ?_⟩, ?_⟩
  · obtain ⟨O', wb⟩ := wb
    exact ⟨_, wb.newLst hD Reps.nil⟩
  rintro i z H2 ⟨rfl, hi, w2⟩
  by_cases hlt : i < m
  · refine .inr ⟨hlt, fun H' => Wf X.K H1 O ((.ow (.lst (res (i + 1))) :: A) ++ Γw) ((some (.ref Dl) :: τ) ++ wipe σ vs) H', fun H' q1 => ⟨m - (i + 1), by omega, rfl, hlt, q1⟩, fun y H' yy => ?_⟩
    obtain ⟨eH, ev⟩ := yy
    subst eH
    have ev : y = .int (i : Int) := by rw [ev, Int.zero_add]
    subst ev
    obtain ⟨O2, w2'⟩ := w2
    have w3 : Wf X.K H1 O (.va (.int (i : Int)) :: ((.ow (.lst (res i)) :: A) ++ Γw)) (some (.int (i : Int)) :: ((some (.ref Dl) :: τ) ++ wipe σ vs)) H' := ⟨O2, w2'.flat rfl (show Rep X.K H' (.int (i : Int)) (.int (i : Int)) from rfl)⟩
    obtain ⟨st1, st2⟩ := hst i hlt
    have hlr : (res i).length ≤ 1000000 := by
      show ((List.range i).map g).length ≤ _
      rw [List.length_map, List.length_range]
      omega
    have hres : res (i + 1) = res i ++ [g i] := by
      show (List.range (i + 1)).map g = (List.range i).map g ++ [g i]
      rw [List.range_succ, List.map_append]
      rfl
    refine fun s0 H00 C cl fp => ht i hlt H1 O s0 H00 C cl fp (.ow (.lst (res i)) :: A) (some (.ref Dl) :: τ) _ H' _ _ (hlA _) w3 fun σ2 H3 hw2 w4 => ?_
    rw [wipe_wipe] at hw2
    refine ⟨hw2, ?_⟩
    simp only [tYes, if_true]
    refine fun s0 H00 C cl fp => he i hlt H1 O s0 H00 C cl fp (.ow (.lst (res i)) :: A) (some (.ref Dl) :: τ) σ2 H3 _ (hlA _) w4 fun y' H5 ⟨O5, w6⟩ => ?_
    obtain ⟨p0, oo, e1, k2, k3, k4, k5⟩ := w6.pop.head
    cases e1
    obtain ⟨v', e2, rv⟩ := w6.head
    cases e2
    cases oo <;> first | exact k5.elim | skip
    rename_i us
    have k5' : Reps X.K (cut H5 O5) (res i) us := k5
    refine ⟨us, k4, ?_, ?_⟩
    · rw [k5'.len, sizeLine_eq]
      omega
    · rw [hres]
      have z := w6.pop.mut (i := 0) (d' := .lst (res i ++ [g i])) (o' := .lst (us ++ [y'])) (by
        show stab ((Sl.ow (.lst (res i)) :: A) ++ Γe i) = true
        rw [stab_app, st1, stab_cons, stA]
        rfl) rfl rfl (k5'.app (Reps.one rv))
      have z2 : Wf X.K H1 O ((.ow (.lst (res i ++ [g i])) :: A) ++ Γe i) ((some (.ref Dl) :: τ) ++ σ2) (upd H5 Dl (.lst (us ++ [y']))) := ⟨O5, z⟩
      have z3 := (Wf.wiped (hlA _) z2 vs).sub (Sub.app st2)
      rw [hw2] at z3
      exact z3
  · have e : i = m := by omega
    subst e
    refine .inl ⟨by show (i : Int).toNat ≤ i; omega, ?_⟩
    have w3 := Wf.only (show Wf X.K H1 O (.ow (.lst (res i)) :: (A ++ Γw)) (some (.ref Dl) :: (τ ++ wipe σ vs)) H2 from w2)
    exact q _ H2 (w1o.after w3 rfl)
theorem e_allHot (hot : L2H.HotC X) (hm : X.mg "all" = none) (ha : Ev X H0 Oc Γ a (.bw (.lst (bs.map .bl)))) (hg : Gl X "all" := by rfl) (he : starEach [a] X.env = (false, eval a X.env) :: starEach [] X.env := by rfl) (hpl : (backTo pos (starEach [] X.env)).any (·.1) = false := by rfl) :
    Ev X H0 Oc Γ (.Call (.Name "all" pp) [a] [] pos) (.va (.bl (bs.all id))) := ev_b1 (Ht.cr_allH hot) ha hm (by decide +kernel) hg (fun G S H v Q W q => by
      obtain ⟨⟨O, h⟩, O', W'⟩ := W.popB
      obtain ⟨t, vs, rfl, h1, h2⟩ := h
      have e : vs = bs.map V.bl := Reps.bls h2
      subst e
      exact ⟨t, bs, rfl, .of h1, q _ H ⟨O', W'.flat (d := .bl (bs.all id)) (H' := H) rfl rfl⟩⟩) (by decide) (by decide) he hpl
/-- a call within a hot context -/
theorem ev_callHot {es : List Expr} {ss : List Sl} {s : Sl} {x : Str} {k : Nat} {ps : List Str} {P : Pm} {p : Pos} (hot : L2H.HotC X) (F : FnGH X.prog X.w X.K X.mg X.base x k ps P) (hr : L2H.RoomH k X.A) (ha : Ea X H0 Oc Γ (e :: es) ss) (hp : P (ss.map Sl.arg) (.ret s)) (hs : s.res = true := by rfl) (hg : Gl X x := by rfl) (hdb : (x == ("__debug__" : Str)) = false := by decide)
    (he : starEach (e :: es) X.env = (false, eval e X.env) :: starEach es X.env := by rfl) (hpl : (backTo pos (starEach es X.env)).any (·.1) = false := by rfl) : Ev X H0 Oc Γ (.Call (.Name x p) (e :: es) [] pos) s := fun Δ τ σ H Q hl W q => by
  obtain ⟨f, fd, F, hm, hk, hb⟩ := F.ex
  refine wpE.of (L2H.pe_callH (E := fun _ => E0) F hr hot hg hm hk hb (fun σ pins H s e s' I c => (passLN (X := X)) pins σ H s e s' I c) pa_wp hdb he hpl) ?_
  refine ha Δ τ σ H _ hl W fun vs O H1 W1 ok => ?_
  exact ⟨O, _, _, hp, W1.callee ok, fun v H' W2 => q v H' (W1.after W2 hs)⟩
end
end Y

namespace K92
open PySem PySem.Spec PyProof.Rows L2 Y
def top (i : Nat) : Stmt := PySem.Challenge.pw_everystepstands_k92_many_colours_within.main.body.getD i (.Pass ⟨0, 0, 0, 0⟩)
abbrev sWith : Stmt := top 2
abbrev sCheck : Stmt := top 13
abbrev sMost : Stmt := top 23
abbrev sSpare : Stmt := top 24
abbrev sLead : Stmt := top 25
abbrev sPairs : Stmt := top 26
abbrev sCell : Stmt := top 28
abbrev sDraw : Stmt := top 29
abbrev sInt : Stmt := top 30
abbrev sTuple : Stmt := top 31
abbrev sBeside : Stmt := top 32
abbrev sTies : Stmt := top 33
abbrev sColouring : Stmt := top 34
abbrev sPut : Stmt := top 35
abbrev sSpoilt : Stmt := top 36
abbrev sColoured : Stmt := top 37
abbrev sRow : Stmt := top 38
abbrev sRefused : Stmt := top 39
abbrev sPairsRef : Stmt := top 40
abbrev sPairsSt : Stmt := top 41
abbrev sLaw : Stmt := top 42
abbrev wInit : Stmt := inClass (top 12) 0
abbrev cInit : Stmt := inClass (top 15) 2
abbrev cIsAns : Stmt := inClass (top 15) 3
abbrev cNext : Stmt := inClass (top 15) 5
abbrev rInit : Stmt := inClass (top 17) 0
abbrev bInit : Stmt := inClass (top 21) 0
section
variable {Pr : Program} {w : World} {K : PySem.W.Frag} {mg : Str → Option Value} {base : Heap}
/-! ### _law_cell -/
def cellV (ns : List Int) (k : Nat) : Int := if k < ns.length then ns.getD k 0 else if 0 < ns.length then ns.getD (k % ns.length) 0 % 1000003 * 31 + k else k
def pCell : Pm := fun Γ o => ∃ (ns : List Int) (k : Nat), ns.length ≤ 63 ∧ Γ = [.va (.fz (ns.map .int)), .va (.int k)] ∧ o = .ret (.va (.int (cellV ns k)))
theorem scCell : FnScope ["script", "k"] ["script", "k"] (defScope sCell) := ⟨rfl, rfl, rfl, by decide +kernel, rfl, by decide +kernel, by decide +kernel⟩
theorem ok_cell {f : Addr} {fd : FuncData} (F : Fun K "_law_cell" "_law_cell" sCell f fd) (T : Bi mg) : FnOk Pr w K mg base (L2N.CX Pr w) 1 f fd ["script", "k"] (mkSp K pCell) := by
  refine fn_sds F scCell (fun Γ o ⟨ns, k, h1, h2, h3⟩ => by rw [h2]; rfl) fun cdv A outer s H E hr H0 Oc Γ o ⟨ns, k, h1, h2, h3⟩ => ?_
  subst h2 h3
  refine ⟨.ret (.va (.int (cellV ns k))), ?_, rfl⟩
  have at_ : ∀ j : Nat, j < ns.length → L2.atI (ns.map D.int) (j : Int) = some (.int (ns.getD j 0)) := fun j hj => atI_map (by rw [List.getD_eq_getElem?_getD, List.getElem?_eq_getElem hj]; rfl)
  have hl : ((ns.map D.int).length : Int) = (ns.length : Int) := by rw [List.length_map]
  unfold cellV
  refine d_ifx (et_c cm_lt (vv 1) (e_len T.len (vb 0))) rfl (fun c => ?_) (fun c => d_ifx (et_c cm_gt (e_len T.len (vb 0)) ev_int) rfl (fun c2 => ?_) (fun c2 => d_ret (vv 1) ?_))
  · have c := of_decide_eq_true c
    rw [hl] at c
    exact d_ret (e_int T.int (ev_ixF (d := .int (ns.getD k 0)) (vb 0) (vv 1) (at_ k (by omega)))) (by rw [if_pos (by omega)])
  · have c := of_decide_eq_false c
    have c2 := of_decide_eq_true c2
    rw [hl] at c c2
    have hm : k % ns.length < ns.length := Nat.mod_lt _ (by omega)
    refine d_ret (ev_add (ev_mul (ev_mod (e_int T.int (ev_ixF (d := .int (ns.getD (k % ns.length) 0)) (vb 0) ((ev_mod (vv 1) ((e_len T.len (vb 0)).ii hl) c2).ii (j := ((k % ns.length : Nat) : Int)) (by rw [Int.natCast_emod])) (at_ _ hm))) ev_int (by decide)) ev_int (.inl ⟨?_, ?_⟩)) (vv 1)) (by rw [if_neg (by omega), if_pos (by omega)])
    · have := Int.emod_nonneg (ns.getD (k % ns.length) 0) (b := 1000003) (by decide)
      omega
    · have := Int.emod_lt_of_pos (ns.getD (k % ns.length) 0) (b := 1000003) (by decide)
      omega
  · have c := of_decide_eq_false c
    have c2 := of_decide_eq_false c2
    rw [hl] at c c2
    rw [if_neg (by omega), if_neg (by omega)]
/-! ### _law_draw -/
def stepA (p : List Int × Int) (b : Int) : List Int × Int := (p.1 ++ [p.2 % b], p.2 / b)
def stepB (p : List Int × Int) (b : Int) : List Int × Int := (p.1 ++ [(p.2 * 48271 + 12345) % 2147483647 / 64 % b], (p.2 * 48271 + 12345) % 2147483647)
def drawV (c : Int) (bs : List Int) : List Int := if 1000000000000000000 ≤ c then (bs.foldl stepA ([], c - 1000000000000000000)).1 else (bs.foldl stepB ([], c % 2147483647)).1
def pDraw : Pm := fun Γ o => ∃ (c : Int) (bs : List Int), bs.length ≤ 1000000 ∧ (∀ b ∈ bs, 0 < b ∧ b < 1073741824) ∧ Γ = [.va (.int c), .br (.lst (bs.map .int))] ∧ o = .ret (.ow (.lst ((drawV c bs).map .int)))
theorem scDraw : FnScope ["cell", "bases", "drawn", "rest", "base", "state"] ["cell", "bases"] (defScope sDraw) := ⟨rfl, rfl, rfl, by decide +kernel, rfl, by decide +kernel, by decide +kernel⟩
theorem lenA : ∀ (bs : List Int) (p : List Int × Int), (bs.foldl stepA p).1.length = p.1.length + bs.length
  | [], _ => rfl
  | b :: bs, p => by
    show (bs.foldl stepA (stepA p b)).1.length = _
    rw [lenA bs]
    simp [stepA]
    omega
theorem lenB : ∀ (bs : List Int) (p : List Int × Int), (bs.foldl stepB p).1.length = p.1.length + bs.length
  | [], _ => rfl
  | b :: bs, p => by
    show (bs.foldl stepB (stepB p b)).1.length = _
    rw [lenB bs]
    simp [stepB]
    omega
theorem drawV_len (c : Int) (bs : List Int) : (drawV c bs).length = bs.length := by
  unfold drawV
  split
  · rw [lenA]; exact Nat.zero_add _
  · rw [lenB]; exact Nat.zero_add _
theorem stB {p : List Int × Int} (h : 0 ≤ p.2 ∧ p.2 < 2147483647) : ∀ (bs : List Int), 0 ≤ (bs.foldl stepB p).2 ∧ (bs.foldl stepB p).2 < 2147483647
  | [] => h
  | b :: bs => stB (p := stepB p b) ⟨Int.emod_nonneg _ (by decide), Int.emod_lt_of_pos _ (by decide)⟩ bs
theorem ok_draw {f : Addr} {fd : FuncData} (F : Fun K "_law_draw" "_law_draw" sDraw f fd) (T : Bi mg) : FnOk Pr w K mg base (L2N.CX Pr w) 1 f fd ["cell", "bases"] (mkSp K pDraw) := by
  refine fn_sds F scDraw (fun Γ o ⟨ns, k, _, _, h2, h3⟩ => by rw [h2]; rfl) fun cdv A outer s H E hr H0 Oc Γ o ⟨ci, bs, hl, hb, h2, h3⟩ => ?_
  subst h2 h3
  refine ⟨.ret (.ow (.lst ((drawV ci bs).map .int))), ?_, rfl⟩
  refine d_set 2 scDraw.nd (ev_lst ea_nil rfl (by decide)) ?_
  refine d_set 3 scDraw.nd (e_int T.int (vv 0)) ?_
  refine d_ifx (et_c cm_ge (vv 3) e_1018) rfl (fun c => ?_) (fun c => ?_)
  · refine d_set 3 scDraw.nd (ev_sub (vv 3) e_1018) ?_
    refine d_forP bs .int stepA ([], ci - 1000000000000000000) (fun p => [.va (.int ci), .br (.lst (bs.map .int)), .ow (.lst (p.1.map .int)), .va (.int p.2), .no, .no]) (passes_of rfl) rfl (ei_lst (vr 1) rfl) ?_ ?_ ?_
    · exact .eq (.eq (.eq (.eq (.eq (.eq .nil)))))
    · intro p b pre post hx hp
      have hbb := hb b (by rw [hx]; simp)
      refine ⟨_, _, t_name 4 scDraw.nd, d_app 2 (ev_mod (vv 3) (vv 4) hbb.1) ?_ (d_set 3 scDraw.nd (ev_fdiv (vv 3) (vv 4) hbb) sds_nil), ?_⟩
      · have z := congrArg List.length hx
        rw [List.length_append, List.length_cons] at z
        rw [List.length_map, hp, lenA]
        show 0 + _ ≤ _
        omega
      · exact .eq (.eq (.eqc (lst1 _ _ _) (.eq (.no (.eq .nil)))))
    · exact d_retV 2 (by unfold drawV; rw [if_pos (of_decide_eq_true c)])
  · refine d_set 5 scDraw.nd (ev_mod (vv 3) ev_int (by decide)) ?_
    refine d_forP bs .int stepB ([], ci % 2147483647) (fun p => [.va (.int ci), .br (.lst (bs.map .int)), .ow (.lst (p.1.map .int)), .va (.int ci), .no, .va (.int p.2)]) (passes_of rfl) rfl (ei_lst (vr 1) rfl) ?_ ?_ ?_
    · exact .eq (.eq (.eq (.eq (.eq (.eq .nil)))))
    · intro p b pre post hx hp
      have hbb := hb b (by rw [hx]; simp)
      have hs : 0 ≤ p.2 ∧ p.2 < 2147483647 := by
        rw [hp]
        exact stB ⟨Int.emod_nonneg _ (by decide), Int.emod_lt_of_pos _ (by decide)⟩ pre
      refine ⟨_, _, t_name 4 scDraw.nd, d_set 5 scDraw.nd (ev_mod (ev_add (ev_mul (vv 5) ev_int (.inl ⟨by omega, by omega⟩)) ev_int) ev_int (by decide)) (d_app 2 (ev_mod (ev_fdiv (vv 5) ev_int ⟨by decide, by decide⟩) (vv 4) hbb.1) ?_ sds_nil), ?_⟩
      · have z := congrArg List.length hx
        rw [List.length_append, List.length_cons] at z
        rw [List.length_map, hp, lenB]
        show 0 + _ ≤ _
        omega
      · exact .eq (.eq (.eqc (lst1 _ _ _) (.eq (.no (.eq .nil)))))
    · exact d_retV 2 (by unfold drawV; rw [if_neg (of_decide_eq_false c)])
theorem foldA_get : ∀ (bs : List Int) (p : List Int × Int), ∃ L : List Int, (bs.foldl stepA p).1 = p.1 ++ L ∧ L.length = bs.length ∧ ∀ (i : Nat) (b : Int), bs[i]? = some b → 0 < b → ∃ v, L[i]? = some v ∧ 0 ≤ v ∧ v < b
  | [], p => ⟨[], by simp, rfl, fun i b h => by simp at h⟩
  | b :: bs, p => by
    obtain ⟨L, h1, h2, h3⟩ := foldA_get bs (stepA p b)
    refine ⟨p.2 % b :: L, ?_, by simp [h2], fun i b' h hb => ?_⟩
    · show (bs.foldl stepA (stepA p b)).1 = _
      rw [h1]
      simp [stepA]
    · cases i with
      | zero =>
        cases h
        exact ⟨_, rfl, Int.emod_nonneg _ (by omega), Int.emod_lt_of_pos _ hb⟩
      | succ i => exact h3 i b' h hb
theorem foldB_get : ∀ (bs : List Int) (p : List Int × Int), ∃ L : List Int, (bs.foldl stepB p).1 = p.1 ++ L ∧ L.length = bs.length ∧ ∀ (i : Nat) (b : Int), bs[i]? = some b → 0 < b → ∃ v, L[i]? = some v ∧ 0 ≤ v ∧ v < b
  | [], p => ⟨[], by simp, rfl, fun i b h => by simp at h⟩
  | b :: bs, p => by
    obtain ⟨L, h1, h2, h3⟩ := foldB_get bs (stepB p b)
    refine ⟨(p.2 * 48271 + 12345) % 2147483647 / 64 % b :: L, ?_, by simp [h2], fun i b' h hb => ?_⟩
    · show (bs.foldl stepB (stepB p b)).1 = _
      rw [h1]
      simp [stepB]
    · cases i with
      | zero =>
        cases h
        exact ⟨_, rfl, Int.emod_nonneg _ (by omega), Int.emod_lt_of_pos _ hb⟩
      | succ i => exact h3 i b' h hb
theorem drawV_get (c : Int) (bs : List Int) (i : Nat) (b : Int) (h : bs[i]? = some b) (hb : 0 < b) : ∃ v, (drawV c bs)[i]? = some v ∧ 0 ≤ v ∧ v < b := by
  unfold drawV
  split
  · obtain ⟨L, h1, _, h3⟩ := foldA_get bs ([], c - 1000000000000000000)
    rw [h1]
    exact h3 i b h hb
  · obtain ⟨L, h1, _, h3⟩ := foldB_get bs ([], c % 2147483647)
    rw [h1]
    exact h3 i b h hb
/-! ### _law_int, _law_truth -/
def pInt : Pm := fun Γ o => ∃ i j : Int, Γ = [.va (.int i), .va (.int j)] ∧ o = .ret (.va (.bl (decide (i = j))))
theorem scInt : FnScope ["actual", "expected"] ["actual", "expected"] (defScope sInt) := ⟨rfl, rfl, rfl, by decide +kernel, rfl, by decide +kernel, by decide +kernel⟩
theorem ok_int {f : Addr} {fd : FuncData} (F : Fun K "_law_int" "_law_int" sInt f fd) (T : Bi mg) : FnOk Pr w K mg base (L2N.CX Pr w) 1 f fd ["actual", "expected"] (mkSp K pInt) := by
  refine fn_sds F scInt (fun Γ o ⟨_, _, h2, _⟩ => by rw [h2]; rfl) fun cdv A outer s H E hr H0 Oc Γ o ⟨i, j, h3, h4⟩ => ?_
  subst h3 h4
  exact ⟨_, d_ret (d1 := .bl (decide (i = j))) (ev_and (e_isT T.isi T.int (vb 0) bt_int rfl ki_ii) fun _ => ev_and (ev_not (e_isT T.isi T.bool (vb 0) bt_bool rfl ki_ib)) fun _ => ev_one (ev_c cm_eqI (vv 0) (vv 1))) (by simp), rfl⟩
theorem ok_intH {f : Addr} {fd : FuncData} (F : Fun K "_law_int" "_law_int" sInt f fd) (T : Bi mg) : L2H.FnH Pr w K mg base (L2N.CX Pr w) 1 f fd ["actual", "expected"] (mkSp K pInt) := by
  refine fn_sdsH F scInt (fun Γ o ⟨_, _, h2, _⟩ => by rw [h2]; rfl) fun cdv A outer s H E p hot hr H0 Oc Γ o ⟨i, j, h3, h4⟩ => ?_
  subst h3 h4
  exact ⟨_, d_ret (d1 := .bl (decide (i = j))) (ev_and (e_isT T.isi T.int (vb 0) bt_int rfl ki_ii) fun _ => ev_and (ev_not (e_isT T.isi T.bool (vb 0) bt_bool rfl ki_ib)) fun _ => ev_one (ev_c cm_eqI (vv 0) (vv 1))) (by simp), rfl⟩
/-! ### _law_tuple -/
theorem getD_at {a : List Int} {k : Nat} (h : k < a.length) : a[k]? = some (a.getD k 0) := by rw [List.getD_eq_getElem?_getD, List.getElem?_eq_getElem h]; rfl
def pTuple : Pm := fun Γ o => ∃ a : List Int, Γ = [.va (encT a), .va (encT a)] ∧ a.length ≤ 1000000 ∧ o = .ret (.va (.bl true))
theorem scTuple : FnScope ["actual", "expected", "k"] ["actual", "expected"] (defScope sTuple) := ⟨rfl, rfl, rfl, by decide +kernel, rfl, by decide +kernel, by decide +kernel⟩
theorem trues (n : Nat) (a : List Int) : (((List.range n).map fun k => decide (a.getD k 0 = a.getD k 0)).all id) = true := by
  rw [List.all_eq_true]
  intro b hb
  obtain ⟨k, _, rfl⟩ := List.mem_map.mp hb
  simp
theorem ok_tuple {f : Addr} {fd : FuncData} (F : Fun K "_law_tuple" "_law_tuple" sTuple f fd) (T : Bi mg) (G : FnG Pr w K mg base "_law_int" 1 ["actual", "expected"] pInt) : FnOk Pr w K mg base (L2N.CX Pr w) 2 f fd ["actual", "expected"] (mkSp K pTuple) := by
  refine fn_sds F scTuple (fun Γ o ⟨_, h2, _⟩ => by rw [h2]; rfl) fun cdv A outer s H E hr H0 Oc Γ o ⟨a, h3, hl, h4⟩ => ?_
  subst h3 h4
  refine ⟨.ret (.va (.bl true)), ?_, rfl⟩
  have lm : ((a.map D.int).length : Int) = (a.length : Int) := by rw [List.length_map]
  refine sds_ifn (q := false) _ (Et.bb (et_w (ew_or (et_not (et_val (e_isT T.isi T.tuple (vb 0) bt_tuple rfl ki_tt))) fun _ => ew_or1 (et_c cm_neI (e_len T.len (vb 0)) (e_len T.len (vb 1))))) (by simp)) (fun z => nomatch z) (fun _ => sds_nil) ?_
  refine d_ret (e_all (bs := (List.range a.length).map fun k => decide (a.getD k 0 = a.getD k 0)) T.all rfl (Ev.r (Ev.aso (d' := .lst (((List.range a.length).map fun k => decide (a.getD k 0 = a.getD k 0)).map .bl)) ?_ (by rw [List.map_map])))) (by rw [trues])
  exact e_lc (own := [("k", 2)]) (List.range a.length) (fun k : Nat => .int k) (fun k => .bl (decide (a.getD k 0 = a.getD k 0))) (fun k => [.va (encT a), .va (encT a), .va (.int k)]) rfl scTuple.nd (blkOk_by (by rfl)) (i_rng T.range ((e_len T.len (vb 1)).ii lm) (by omega)) (by rw [List.length_range]; omega) (fun x hx _ _ _ _ _ _ _ => tw_name 2 scTuple.nd) (fun k _ => ⟨rfl, .eq (.eq (.no .nil))⟩)
    (fun k hk _ _ _ _ _ _ _ => ev_call G hr (ea_cons (ev_ixT (d := .int (a.getD k 0)) (vb 0) (vv 2) (atI_map (getD_at (List.mem_range.mp hk)))) (ea_cons (ev_ixT (d := .int (a.getD k 0)) (vb 1) (vv 2) (atI_map (getD_at (List.mem_range.mp hk)))) ea_nil)) ⟨_, _, rfl, rfl⟩)
theorem ok_tupleH {f : Addr} {fd : FuncData} (F : Fun K "_law_tuple" "_law_tuple" sTuple f fd) (T : Bi mg) (G : FnGH Pr w K mg base "_law_int" 1 ["actual", "expected"] pInt) : L2H.FnH Pr w K mg base (L2N.CX Pr w) 2 f fd ["actual", "expected"] (mkSp K pTuple) := by
  refine fn_sdsH F scTuple (fun Γ o ⟨_, h2, _⟩ => by rw [h2]; rfl) fun cdv A outer s H E p hot hr H0 Oc Γ o ⟨a, h3, hl, h4⟩ => ?_
  subst h3 h4
  refine ⟨.ret (.va (.bl true)), ?_, rfl⟩
  have lm : ((a.map D.int).length : Int) = (a.length : Int) := by rw [List.length_map]
  have hp : L2H.HotC (L2H.cxH (L2N.CX Pr w) Pr w K mg base ["actual", "expected", "k"] "_law_tuple" (defScope sTuple) f cdv A outer s H E p) := ⟨p, hot, List.mem_cons_self⟩
  refine sds_ifn (q := false) _ (Et.bb (et_w (ew_or (et_not (et_val (e_isT T.isi T.tuple (vb 0) bt_tuple rfl ki_tt))) fun _ => ew_or1 (et_c cm_neI (e_len T.len (vb 0)) (e_len T.len (vb 1))))) (by simp)) (fun z => nomatch z) (fun _ => sds_nil) ?_
  refine d_ret (e_allHot (bs := (List.range a.length).map fun k => decide (a.getD k 0 = a.getD k 0)) hp T.all (Ev.r (Ev.aso (d' := .lst (((List.range a.length).map fun k => decide (a.getD k 0 = a.getD k 0)).map .bl)) ?_ (by rw [List.map_map])))) (by rw [trues])
  exact ev_lcHot (own := [("k", 2)]) (pn := p) (m := a.length) (fun k => .bl (decide (a.getD k 0 = a.getD k 0))) (fun k => [.va (encT a), .va (encT a), .va (.int k)]) hot List.mem_cons_self scTuple.nd T.range (blkOk_by (by rfl)) ((e_len T.len (vb 1)).ii lm) hl (fun k _ _ _ _ _ _ _ _ => tw_name 2 scTuple.nd) (fun k _ => ⟨rfl, .eq (.eq (.no .nil))⟩)
    (fun k hk _ _ _ _ _ _ _ => ev_callHot (Ht.hot_blk hot) G hr (ea_cons (ev_ixT (d := .int (a.getD k 0)) (vb 0) (vv 2) (atI_map (getD_at hk))) (ea_cons (ev_ixT (d := .int (a.getD k 0)) (vb 1) (vv 2) (atI_map (getD_at hk))) ea_nil)) ⟨_, _, rfl, rfl⟩)
end
end K92

namespace K92
open PySem PySem.Spec PyProof.Rows L2 Y
/-! ### ties, neighbours, colourings: plain -/
def toLN (t : Nat × Nat) : List Int := [(t.1 : Int), (t.2 : Int)]
def ofLN (l : List Int) : Nat × Nat := ((l.getD 0 0).toNat, (l.getD 1 0).toNat)
def encN (t : Nat × Nat) : D := encT (toLN t)
theorem ofLN_to (t : Nat × Nat) : ofLN (toLN t) = t := rfl
theorem toLN_inj {a b : Nat × Nat} (h : toLN a = toLN b) : a = b := by rw [← ofLN_to a, h, ofLN_to]
structure Good (n : Nat) (F : List (Nat × Nat)) : Prop where
  lt : ∀ t ∈ F, t.1 < t.2 ∧ t.2 < n
  nd : F.Nodup
  len : F.length ≤ 60
def sortP (F : List (Nat × Nat)) : List (Nat × Nat) := (sortL (F.map toLN)).map ofLN
theorem sortP_perm (F : List (Nat × Nat)) : (sortP F).Perm F := by
  unfold sortP
  have h := (sortL_perm (F.map toLN)).map ofLN
  rw [List.map_map] at h
  have e : F.map (ofLN ∘ toLN) = F := by
    induction F with
    | nil => rfl
    | cons a F ih => rw [List.map_cons, ih ((sortL_perm (F.map toLN)).map ofLN |>.trans (by rw [List.map_map])), Function.comp, ofLN_to]
  rw [e] at h
  exact h
theorem sortP_enc (F : List (Nat × Nat)) : (sortL (F.map toLN)).map encT = (sortP F).map encN := by
  unfold sortP
  rw [List.map_map]
  refine List.map_congr_left fun l hl => ?_
  obtain ⟨t, _, rfl⟩ := List.mem_map.mp ((sortL_perm _).mem_iff.mp hl)
  rfl
theorem Good.perm {n : Nat} {F G : List (Nat × Nat)} (h : Good n F) (p : G.Perm F) : Good n G := ⟨fun t ht => h.lt t (p.mem_iff.mp ht), p.nodup_iff.mpr h.nd, by rw [p.length_eq]; exact h.len⟩
def nb (F : List (Nat × Nat)) (p : Nat) : List Nat := F.filterMap fun t => if t.1 = p then some t.2 else if t.2 = p then some t.1 else none
theorem mem_nb {F : List (Nat × Nat)} {p o : Nat} : o ∈ nb F p ↔ (p, o) ∈ F ∨ (o ≠ p ∧ (o, p) ∈ F) ∨ ((p, p) ∈ F ∧ o = p) := by
  unfold nb
  rw [List.mem_filterMap]
  constructor
  · rintro ⟨⟨a, b⟩, ht, h⟩
    by_cases c : a = p
    · rw [if_pos c] at h
      cases h
      exact .inl (c ▸ ht)
    · rw [if_neg c] at h
      by_cases c2 : b = p
      · rw [if_pos c2] at h
        cases h
        exact .inr (.inl ⟨c, c2 ▸ ht⟩)
      · rw [if_neg c2] at h
        cases h
  · rintro (h | ⟨h1, h2⟩ | ⟨h1, h2⟩)
    · exact ⟨_, h, if_pos rfl⟩
    · exact ⟨_, h2, by rw [if_neg h1, if_pos rfl]⟩
    · exact ⟨_, h1, by rw [if_pos rfl, h2]⟩
theorem nb_perm {F G : List (Nat × Nat)} (h : G.Perm F) (p : Nat) : (nb G p).Perm (nb F p) := h.filterMap _
theorem Good.nb_lt {n : Nat} {F : List (Nat × Nat)} (h : Good n F) {p o : Nat} (ho : o ∈ nb F p) : o < n ∧ p < n ∧ o ≠ p ∧ ((p, o) ∈ F ∨ (o, p) ∈ F) := by
  rcases mem_nb.mp ho with k | ⟨_, k⟩ | ⟨k, _⟩
  · have := h.lt _ k
    exact ⟨this.2, Nat.lt_trans this.1 this.2, Nat.ne_of_gt this.1, .inl k⟩
  · have := h.lt _ k
    exact ⟨Nat.lt_trans this.1 this.2, this.2, Nat.ne_of_lt this.1, .inr k⟩
  · exact absurd (h.lt _ k).1 (Nat.lt_irrefl _)
theorem Good.nb_of {n : Nat} {F : List (Nat × Nat)} (h : Good n F) {t : Nat × Nat} (ht : t ∈ F) : t.2 ∈ nb F t.1 ∧ t.1 ∈ nb F t.2 := ⟨mem_nb.mpr (.inl ht), mem_nb.mpr (.inr (.inl ⟨Nat.ne_of_lt (h.lt t ht).1, ht⟩))⟩
/-- the web's near -/
theorem map_set {β : Type} (n : Nat) (f : Nat → β) (a : Nat) (x : β) : ((List.range n).map f).set a x = (List.range n).map fun p => if p = a then x else f p := by
  apply List.ext_getElem?
  intro i
  rw [List.getElem?_set, List.getElem?_map, List.getElem?_map]
  by_cases hi : i < n
  · rw [List.getElem?_range hi]
    by_cases e : a = i
    · subst e
      simp [hi]
    · rw [if_neg e]
      simp [Ne.symm e]
  · rw [List.getElem?_eq_none (by rw [List.length_range]; omega)]
    simp
    omega
theorem map_getD {β : Type} (n : Nat) (f : Nat → β) (d : β) {a : Nat} (h : a < n) : ((List.range n).map f).getD a d = f a := by
  rw [List.getD_eq_getElem?_getD, List.getElem?_map, List.getElem?_range h]
  rfl
theorem adj_step (n : Nat) (f : Nat → List Int) (t : Nat × Nat) (h1 : t.1 ≠ t.2) (h2 : t.1 < n) (h3 : t.2 < n) : stepG ((List.range n).map f) t = (List.range n).map fun p => f p ++ (if t.1 = p then [(t.2 : Int)] else if t.2 = p then [(t.1 : Int)] else []) := by
  unfold stepG
  rw [map_getD n f _ h2, map_set, map_getD n _ _ h3, map_set]
  refine List.map_congr_left fun p _ => ?_
  by_cases e1 : p = t.2
  · subst e1
    rw [if_pos rfl, if_neg (Ne.symm h1), if_neg h1, if_pos rfl]
  · rw [if_neg e1]
    by_cases e2 : p = t.1
    · subst e2
      rw [if_pos rfl, if_pos rfl]
    · rw [if_neg e2, if_neg (Ne.symm e2), if_neg (Ne.symm e1), List.append_nil]
def nearV (n : Nat) (T : List (Nat × Nat)) : List (List Int) := (List.range n).map fun p => (nb T p).map fun q : Nat => (q : Int)
theorem adj_eq {n : Nat} : ∀ {T : List (Nat × Nat)}, (∀ t ∈ T, t.1 < t.2 ∧ t.2 < n) → T.foldl stepG (List.replicate n []) = nearV n T := by
  have key : ∀ (T : List (Nat × Nat)) (f : Nat → List Int), (∀ t ∈ T, t.1 < t.2 ∧ t.2 < n) → T.foldl stepG ((List.range n).map f) = (List.range n).map fun p => f p ++ (nb T p).map fun q : Nat => (q : Int) := by
    intro T
    induction T with
    | nil =>
      intro f _
      refine List.map_congr_left fun p _ => ?_
      show f p = f p ++ []
      rw [List.append_nil]
    | cons t T ih =>
      intro f h
      have ht := h t List.mem_cons_self
      rw [List.foldl_cons, adj_step n f t (Nat.ne_of_lt ht.1) (Nat.lt_trans ht.1 ht.2) ht.2, ih _ fun u hu => h u (List.mem_cons_of_mem _ hu)]
      refine List.map_congr_left fun p _ => ?_
      rw [List.append_assoc]
      congr 1
      unfold nb
      rw [List.filterMap_cons]
      by_cases e1 : t.1 = p
      · rw [if_pos e1, if_pos e1]
        rfl
      · rw [if_neg e1, if_neg e1]
        by_cases e2 : t.2 = p
        · rw [if_pos e2, if_pos e2]
          rfl
        · rw [if_neg e2, if_neg e2]
          rfl
  intro T h
  have := key T (fun _ => []) h
  rw [List.map_const', List.length_range] at this
  rw [this]
  exact List.map_congr_left fun p _ => List.nil_append _
theorem nearV_at {n : Nat} {T : List (Nat × Nat)} {p : Nat} (h : p < n) : (nearV n T)[p]? = some ((nb T p).map fun q : Nat => (q : Int)) := by
  unfold nearV
  rw [List.getElem?_map, List.getElem?_range h]
  rfl
/-! colourings -/
def okC (n c : Nat) (T : List (Nat × Nat)) (s : List Int) : Bool := decide (s.length = n) && (s.all fun v => decide (0 ≤ v) && decide (v < (c : Int))) && T.all fun t => !decide (s.getD t.1 0 = s.getD t.2 0)
theorem okC_iff {n c : Nat} {T : List (Nat × Nat)} {s : List Int} : okC n c T s = true ↔ s.length = n ∧ (∀ v ∈ s, 0 ≤ v ∧ v < (c : Int)) ∧ ∀ t ∈ T, s.getD t.1 0 ≠ s.getD t.2 0 := by
  unfold okC
  rw [Bool.and_eq_true, Bool.and_eq_true, List.all_eq_true, List.all_eq_true, decide_eq_true_eq, and_assoc]
  simp
theorem okC_perm {n c : Nat} {T F : List (Nat × Nat)} (h : T.Perm F) (s : List Int) : okC n c T s = okC n c F s := by
  have : okC n c T s = true ↔ okC n c F s = true := by
    rw [okC_iff, okC_iff]
    constructor
    · exact fun ⟨a, b, k⟩ => ⟨a, b, fun t ht => k t (h.mem_iff.mpr ht)⟩
    · exact fun ⟨a, b, k⟩ => ⟨a, b, fun t ht => k t (h.mem_iff.mp ht)⟩
  cases e1 : okC n c T s <;> cases e2 : okC n c F s <;> simp [e1, e2] at this ⊢
theorem pigeon : ∀ (c : Nat) (L : List Int), (∀ k : Nat, k < c → (k : Int) ∈ L) → c ≤ L.length
  | 0, _, _ => Nat.zero_le _
  | c + 1, L, h => by
    have hm : (c : Int) ∈ L := h c (Nat.lt_succ_self c)
    have := pigeon c (L.erase (c : Int)) fun k hk => (List.mem_erase_of_ne (by omega)).mpr (h k (Nat.lt_succ_of_lt hk))
    rw [List.length_erase_of_mem hm] at this
    have : 0 < L.length := List.length_pos_of_mem hm
    omega
def colsV (c : Nat) : List Int := (List.range c).map fun k : Nat => (k : Int)
theorem mem_cols {c : Nat} {v : Int} : v ∈ colsV c ↔ 0 ≤ v ∧ v < (c : Int) := by
  unfold colsV
  rw [List.mem_map]
  constructor
  · rintro ⟨k, hk, rfl⟩
    have := List.mem_range.mp hk
    omega
  · intro h
    exact ⟨v.toNat, List.mem_range.mpr (by omega), by omega⟩
/-- some colour is left -/
theorem free_some {c : Nat} (L : List Int) (h : L.length < c) : 0 < ((colsV c).filter fun v => !decide (v ∈ L)).length := by
  apply Nat.lt_of_not_le
  intro hz
  have := pigeon c L fun k hk => by
    apply Classical.byContradiction
    intro hn
    have hm : (k : Int) ∈ (colsV c).filter fun v => !decide (v ∈ L) := List.mem_filter.mpr ⟨mem_cols.mpr (by omega), by simp [hn]⟩
    have := List.length_pos_of_mem hm
    omega
  omega
def takenV (T : List (Nat × Nat)) (s : List Int) (p : Nat) : List Int := (nb T p).map fun q => s.getD q 0
def sparesV (c : Nat) (T : List (Nat × Nat)) (s : List Int) (p : Nat) (b : Int) : List Int := (colsV c).filter fun v => !decide (v = b) && !decide (v ∈ takenV T s p)
def spareV (c : Nat) (T : List (Nat × Nat)) (s : List Int) (p : Nat) (b : Int) : Int := (sparesV c T s p b).getD 0 0
theorem spare_ok {c : Nat} {T : List (Nat × Nat)} (s : List Int) (p : Nat) (b : Int) (h : (nb T p).length + 2 ≤ c) : 0 < (sparesV c T s p b).length ∧ 0 ≤ spareV c T s p b ∧ spareV c T s p b < (c : Int) ∧ spareV c T s p b ≠ b ∧ ∀ q ∈ nb T p, spareV c T s p b ≠ s.getD q 0 := by
  have hp : 0 < (sparesV c T s p b).length := by
    have := free_some (c := c) (b :: takenV T s p) (by unfold takenV; rw [List.length_cons, List.length_map]; omega)
    have e : (colsV c).filter (fun v => !decide (v ∈ b :: takenV T s p)) = sparesV c T s p b := by
      unfold sparesV
      refine List.filter_congr fun v _ => ?_
      by_cases h1 : v = b <;> by_cases h2 : v ∈ takenV T s p <;> simp [h1, h2]
    rw [e] at this
    exact this
  refine ⟨hp, ?_⟩
  have hm : spareV c T s p b ∈ sparesV c T s p b := by
    unfold spareV
    rw [List.getD_eq_getElem?_getD, List.getElem?_eq_getElem hp]
    exact List.getElem_mem _
  generalize spareV c T s p b = v at hm
  obtain ⟨h1, h2⟩ := List.mem_filter.mp hm
  have h1 := mem_cols.mp h1
  simp only [Bool.and_eq_true, Bool.not_eq_true', decide_eq_false_iff_not] at h2
  refine ⟨h1.1, h1.2, h2.1, fun q hq z => h2.2 ?_⟩
  rw [z]
  exact List.mem_map.mpr ⟨q, hq, rfl⟩
/-- one place anew -/
theorem getD_set (s : List Int) (p q : Nat) (v : Int) (h : p < s.length) : (s.set p v).getD q 0 = if q = p then v else s.getD q 0 := by
  rw [List.getD_eq_getElem?_getD, List.getElem?_set]
  by_cases e : p = q
  · subst e
    rw [if_pos rfl, if_pos h, if_pos rfl]
    rfl
  · rw [if_neg e, if_neg (Ne.symm e), List.getD_eq_getElem?_getD]
theorem okC_set {n c : Nat} {T : List (Nat × Nat)} {s : List Int} (G : Good n T) (h : okC n c T s = true) {p : Nat} {v : Int} (hp : p < n) (h0 : 0 ≤ v) (h1 : v < (c : Int)) (hq : ∀ q ∈ nb T p, v ≠ s.getD q 0) : okC n c T (s.set p v) = true := by
  rw [okC_iff] at h ⊢
  obtain ⟨a, b, k⟩ := h
  refine ⟨by rw [List.length_set]; exact a, fun u hu => ?_, fun t ht => ?_⟩
  · rcases List.mem_or_eq_of_mem_set hu with hu | rfl
    · exact b u hu
    · exact ⟨h0, h1⟩
  · have lt := G.lt t ht
    obtain ⟨n1, n2⟩ := G.nb_of ht
    rw [getD_set _ _ _ _ (by omega), getD_set _ _ _ _ (by omega)]
    by_cases e1 : t.1 = p
    · rw [if_pos e1, if_neg (by omega)]
      exact hq _ (e1 ▸ n1)
    · rw [if_neg e1]
      by_cases e2 : t.2 = p
      · rw [if_pos e2]
        exact fun z => hq _ (e2 ▸ n2) z.symm
      · rw [if_neg e2]
        exact k t ht
def apart (n : Nat) (a b : List Int) : List Nat := (List.range n).filter fun i => !decide (a.getD i 0 = b.getD i 0)
theorem apart_set {n : Nat} {s : List Int} {p : Nat} {v : Int} (hl : s.length = n) (hp : p < n) (hv : s.getD p 0 ≠ v) : apart n s (s.set p v) = [p] := by
  unfold apart
  have : ∀ i, (!decide (s.getD i 0 = (s.set p v).getD i 0)) = decide (i = p) := fun i => by
    rw [getD_set _ _ _ _ (by omega)]
    by_cases e : i = p
    · subst e
      simpa using hv
    · simp [e]
  rw [List.filter_congr fun i _ => this i]
  have e : List.range n = List.range p ++ p :: (List.range' (p + 1) (n - (p + 1))) := by
    rw [List.range_eq_range', List.range_eq_range']
    have h1 := List.range'_append_1 (s := 0) (m := p) (n := n - p)
    rw [Nat.zero_add, show p + (n - p) = n by omega] at h1
    rw [← h1]
    congr 1
    rw [show n - p = (n - (p + 1)) + 1 by omega, List.range'_succ]
  rw [e, List.filter_append, List.filter_cons, decide_eq_true rfl, if_pos rfl]
  have z1 : (List.range p).filter (fun i => decide (i = p)) = [] := by
    rw [List.filter_eq_nil_iff]
    intro i hi
    have := List.mem_range.mp hi
    simp
    omega
  have z2 : (List.range' (p + 1) (n - (p + 1))).filter (fun i => decide (i = p)) = [] := by
    rw [List.filter_eq_nil_iff]
    intro i hi
    have := List.mem_range'_1.mp hi
    simp
    omega
  rw [z1, z2]
  rfl
end K92

namespace K92
open PySem PySem.Spec PyProof.Rows L2 Y
/-! ### the row that lead_many makes: plain -/
abbrev LS := List (List Int) × List Int
def stepO (T : List (Nat × Nat)) (c : Nat) (wn : Int) (st : LS) (o : Nat) : LS := if st.2.getD o 0 = wn then (st.1 ++ [st.2], st.2.set o (spareV c T st.2 o wn)) else st
def stepPl (T : List (Nat × Nat)) (c : Nat) (goal : List Int) (st : LS) (p : Nat) : LS := if st.2.getD p 0 = goal.getD p 0 then st else
  (((nb T p).foldl (stepO T c (goal.getD p 0)) st).1 ++ [((nb T p).foldl (stepO T c (goal.getD p 0)) st).2], ((nb T p).foldl (stepO T c (goal.getD p 0)) st).2.set p (goal.getD p 0))
def leadSt (n c : Nat) (T : List (Nat × Nat)) (start goal : List Int) (k : Nat) : LS := (List.range k).foldl (stepPl T c goal) ([], start)
def leadV (n c : Nat) (T : List (Nat × Nat)) (start goal : List Int) : List (List Int) := (leadSt n c T start goal n).1 ++ [(leadSt n c T start goal n).2]
def Chn (n : Nat) (L : List (List Int)) : Prop := ∀ (k : Nat) (a b : List Int), L[k]? = some a → L[k + 1]? = some b → (apart n a b).length = 1
theorem Chn.one {n : Nat} {a : List Int} : Chn n [a] := fun k x y _ h => by simp at h
theorem Chn.snoc {n : Nat} {L : List (List Int)} {a b : List Int} (h : Chn n (L ++ [a])) (hab : (apart n a b).length = 1) : Chn n (L ++ [a] ++ [b]) := fun k x y hx hy => by
  by_cases c : k + 1 < (L ++ [a]).length
  · rw [List.getElem?_append_left c] at hy
    rw [List.getElem?_append_left (by omega)] at hx
    exact h k x y hx hy
  · rw [List.getElem?_append_right (by omega)] at hy
    have hk : k + 1 = (L ++ [a]).length := by
      have : k + 1 - (L ++ [a]).length < 1 := by
        have := (List.getElem?_eq_some_iff.mp hy).1
        simpa using this
      omega
    rw [hk, Nat.sub_self] at hy
    cases hy
    rw [List.getElem?_append_left (by omega)] at hx
    rw [List.length_append, List.length_singleton] at hk
    have hk' : k = L.length := by omega
    rw [hk', List.getElem?_append_right (Nat.le_refl _), Nat.sub_self] at hx
    cases hx
    exact hab
/-- what holds of the row so far -/
structure RowOk (n c : Nat) (T : List (Nat × Nat)) (start : List Int) (st : LS) : Prop where
  ok : ∀ s ∈ st.1 ++ [st.2], okC n c T s = true
  chn : Chn n (st.1 ++ [st.2])
  hd : (st.1 ++ [st.2]).head? = some start
theorem RowOk.step {n c : Nat} {T : List (Nat × Nat)} {start : List Int} {st : LS} (h : RowOk n c T start st) {p : Nat} {v : Int} (hp : p < n) (hv : st.2.getD p 0 ≠ v) (hk : okC n c T (st.2.set p v) = true) : RowOk n c T start (st.1 ++ [st.2], st.2.set p v) := by
  have hl := (okC_iff.mp (h.ok st.2 (by simp))).1
  refine ⟨fun s hs => ?_, h.chn.snoc (by rw [apart_set hl hp hv]; rfl), ?_⟩
  · rcases List.mem_append.mp hs with hs | hs
    · exact h.ok s hs
    · rw [List.mem_singleton.mp hs]; exact hk
  · have := h.hd
    show ((st.1 ++ [st.2]) ++ [_]).head? = _
    rw [List.head?_append, this]
    rfl
section
variable {n c : Nat} {T : List (Nat × Nat)} {start goal : List Int}
/-- the inner loop -/
theorem inner (G : Good n T) (hg : okC n c T goal = true) (hd : ∀ p, p < n → (nb T p).length + 2 ≤ c) {p : Nat} (hp : p < n) : ∀ (os : List Nat) (st : LS) (don : List Nat), (∀ o ∈ os, o ∈ nb T p) → RowOk n c T start st → (∀ q, q < p → st.2.getD q 0 = goal.getD q 0) → st.2.getD p 0 ≠ goal.getD p 0 → (∀ o ∈ don, st.2.getD o 0 ≠ goal.getD p 0) →
    let r := os.foldl (stepO T c (goal.getD p 0)) st
    RowOk n c T start r ∧ (∀ q, q < p → r.2.getD q 0 = goal.getD q 0) ∧ r.2.getD p 0 ≠ goal.getD p 0 ∧ (∀ o ∈ don ++ os, r.2.getD o 0 ≠ goal.getD p 0) ∧ r.1.length ≤ st.1.length + (os.filter fun o => decide (p < o)).length
  | [], st, don, _, h1, h2, h3, h4 => ⟨h1, h2, h3, by simpa using h4, Nat.le_refl _⟩
  | o :: os, st, don, hm, h1, h2, h3, h4 => by
    have ho := hm o List.mem_cons_self
    obtain ⟨on, _, op, _⟩ := G.nb_lt ho
    have hl := (okC_iff.mp (h1.ok st.2 (by simp))).1
    rw [List.foldl_cons]
    by_cases e : st.2.getD o 0 = goal.getD p 0
    · have es : stepO T c (goal.getD p 0) st o = (st.1 ++ [st.2], st.2.set o (spareV c T st.2 o (goal.getD p 0))) := if_pos e
      rw [es]
      obtain ⟨_, s1, s2, s3, s4⟩ := spare_ok st.2 o (goal.getD p 0) (hd o on)
      generalize spareV c T st.2 o (goal.getD p 0) = v at s1 s2 s3 s4
      have gt : p < o := by
        apply Nat.lt_of_not_le
        intro hle
        have lt : o < p := by omega
        have e2 := h2 o lt
        rw [e] at e2
        obtain ⟨_, _, _, ht⟩ := G.nb_lt ho
        have hg' := (okC_iff.mp hg).2.2
        rcases ht with ht | ht
        · exact hg' _ ht e2
        · exact hg' _ ht e2.symm
      have hs := okC_set G (h1.ok st.2 (by simp)) on s1 s2 s4
      have h1' := h1.step on (by rw [e]; exact fun z => s3 z.symm) hs
      have gd : ∀ q, (st.2.set o v).getD q 0 = if q = o then v else st.2.getD q 0 := fun q => getD_set _ _ _ _ (by omega)
      obtain ⟨r1, r2, r3, r4, r5⟩ := inner G hg hd hp os (st.1 ++ [st.2], st.2.set o v) (don ++ [o]) (fun x hx => hm x (List.mem_cons_of_mem _ hx)) h1' (fun q hq => by rw [gd, if_neg (by omega)]; exact h2 q hq) (by rw [gd, if_neg (by omega)]; exact h3) (fun x hx => by
        rw [gd]
        by_cases q : x = o
        · rw [if_pos q]; exact s3
        · rw [if_neg q]
          rcases List.mem_append.mp hx with hx | hx
          · exact h4 x hx
          · exact absurd (List.mem_singleton.mp hx) q)
      refine ⟨r1, r2, r3, fun x hx => r4 x (by rw [List.append_assoc]; exact hx), ?_⟩
      rw [List.filter_cons, if_pos (decide_eq_true gt), List.length_cons]
      rw [List.length_append, List.length_singleton] at r5
      omega
    · have es : stepO T c (goal.getD p 0) st o = st := if_neg e
      rw [es]
      obtain ⟨r1, r2, r3, r4, r5⟩ := inner G hg hd hp os st (don ++ [o]) (fun x hx => hm x (List.mem_cons_of_mem _ hx)) h1 h2 h3 (fun x hx => by
        rcases List.mem_append.mp hx with hx | hx
        · exact h4 x hx
        · rw [List.mem_singleton.mp hx]; exact e)
      refine ⟨r1, r2, r3, fun x hx => r4 x (by rw [List.append_assoc]; exact hx), ?_⟩
      rw [List.filter_cons]
      split
      · rw [List.length_cons]; omega
      · exact r5
theorem more_count (G : ∀ t ∈ T, t.1 < t.2 ∧ t.2 < n) (p : Nat) : ((nb T p).filter fun o => decide (p < o)).length ≤ T.countP fun t => decide (t.1 = p) := by
  induction T with
  | nil => exact Nat.le_refl _
  | cons t T ih =>
    have ih := ih fun u hu => G u (List.mem_cons_of_mem _ hu)
    have lt := G t List.mem_cons_self
    unfold nb at ih ⊢
    rw [List.filterMap_cons, List.countP_cons]
    by_cases e1 : t.1 = p
    · rw [if_pos e1]
      simp only [e1, decide_true, if_true]
      rw [List.filter_cons]
      split
      · rw [List.length_cons]; omega
      · omega
    · rw [if_neg e1]
      by_cases e2 : t.2 = p
      · rw [if_pos e2]
        simp only
        rw [List.filter_cons, if_neg (by simp; omega)]
        omega
      · rw [if_neg e2]
        simp only
        omega
theorem count_lt (T : List (Nat × Nat)) (p : Nat) : (T.countP fun t => decide (t.1 < p + 1)) = (T.countP fun t => decide (t.1 < p)) + T.countP fun t => decide (t.1 = p) := by
  induction T with
  | nil => rfl
  | cons t T ih =>
    rw [List.countP_cons, List.countP_cons, List.countP_cons, ih]
    by_cases e1 : t.1 < p
    · have : t.1 ≠ p := by omega
      have h2 : t.1 < p + 1 := by omega
      simp [e1, this, h2]
      omega
    · by_cases e2 : t.1 = p
      · subst e2
        simp
        omega
      · have h2 : ¬ t.1 < p + 1 := by omega
        simp [e1, e2, h2]
theorem outer (G : Good n T) (hs : okC n c T start = true) (hg : okC n c T goal = true) (hd : ∀ p, p < n → (nb T p).length + 2 ≤ c) : ∀ k, k ≤ n → RowOk n c T start (leadSt n c T start goal k) ∧ (∀ q, q < k → (leadSt n c T start goal k).2.getD q 0 = goal.getD q 0) ∧ (leadSt n c T start goal k).1.length ≤ k + T.countP fun t => decide (t.1 < k)
  | 0, _ => ⟨⟨fun s h => by
      have : s = start := List.mem_singleton.mp h
      rw [this]; exact hs, Chn.one, rfl⟩, fun q h => absurd h (Nat.not_lt_zero q), Nat.zero_le _⟩
  | k + 1, hk => by
    obtain ⟨h1, h2, h3⟩ := outer G hs hg hd k (by omega)
    have e : leadSt n c T start goal (k + 1) = stepPl T c goal (leadSt n c T start goal k) k := by
      unfold leadSt
      rw [List.range_succ, List.foldl_append]
      rfl
    rw [e]
    generalize leadSt n c T start goal k = st at h1 h2 h3
    have cl := count_lt T k
    by_cases w : st.2.getD k 0 = goal.getD k 0
    · have es : stepPl T c goal st k = st := if_pos w
      rw [es]
      refine ⟨h1, fun q hq => ?_, by omega⟩
      by_cases e : q = k
      · rw [e]; exact w
      · exact h2 q (by omega)
    · have es : stepPl T c goal st k = (((nb T k).foldl (stepO T c (goal.getD k 0)) st).1 ++ [((nb T k).foldl (stepO T c (goal.getD k 0)) st).2], ((nb T k).foldl (stepO T c (goal.getD k 0)) st).2.set k (goal.getD k 0)) := if_neg w
      rw [es]
      obtain ⟨r1, r2, r3, r4, r5⟩ := inner (start := start) G hg hd (show k < n by omega) (nb T k) st [] (fun _ h => h) h1 h2 w (fun _ h => nomatch h)
      generalize (nb T k).foldl (stepO T c (goal.getD k 0)) st = r at r1 r2 r3 r4 r5
      have hl := (okC_iff.mp (r1.ok r.2 (by simp))).1
      have hgl := okC_iff.mp hg
      have hgk : 0 ≤ goal.getD k 0 ∧ goal.getD k 0 < (c : Int) := hgl.2.1 _ (by
        rw [List.getD_eq_getElem?_getD, List.getElem?_eq_getElem (by omega : k < goal.length)]
        exact List.getElem_mem _)
      have ok := okC_set G (r1.ok r.2 (by simp)) (show k < n by omega) hgk.1 hgk.2 fun q hq z => r4 q (by simpa using hq) z.symm
      refine ⟨r1.step (by omega) r3 ok, fun q hq => ?_, ?_⟩
      · rw [getD_set _ _ _ _ (by omega)]
        by_cases e : q = k
        · rw [if_pos e, e]
        · rw [if_neg e]; exact r2 q (by omega)
      · have := more_count G.lt k
        show (r.1 ++ [r.2]).length ≤ _
        rw [List.length_append, List.length_singleton]
        omega
theorem lead_ok (G : Good n T) (hs : okC n c T start = true) (hg : okC n c T goal = true) (hd : ∀ p, p < n → (nb T p).length + 2 ≤ c) :
    (leadV n c T start goal).length ≤ n + T.length + 1 ∧ (∀ s ∈ leadV n c T start goal, okC n c T s = true) ∧ Chn n (leadV n c T start goal) ∧ (leadV n c T start goal).head? = some start ∧ (leadV n c T start goal).getLast? = some goal ∧ 0 < (leadV n c T start goal).length := by
  obtain ⟨h1, h2, h3⟩ := outer G hs hg hd n (Nat.le_refl _)
  unfold leadV
  generalize leadSt n c T start goal n = st at h1 h2 h3
  refine ⟨?_, h1.ok, h1.chn, h1.hd, ?_, by simp⟩
  · rw [List.length_append, List.length_singleton]
    have := List.countP_le_length (p := fun t : Nat × Nat => decide (t.1 < n)) (l := T)
    omega
  · rw [List.getLast?_append]
    have hl := (okC_iff.mp (h1.ok st.2 (by simp))).1
    have hgl := (okC_iff.mp hg).1
    have e : st.2 = goal := by
      apply List.ext_getElem?
      intro i
      by_cases hi : i < n
      · have := h2 i hi
        rw [List.getD_eq_getElem?_getD, List.getD_eq_getElem?_getD, List.getElem?_eq_getElem (by omega), List.getElem?_eq_getElem (by omega)] at this
        rw [List.getElem?_eq_getElem (by omega), List.getElem?_eq_getElem (by omega)]
        exact congrArg some this
      · rw [List.getElem?_eq_none (by omega), List.getElem?_eq_none (by omega)]
    rw [e]
    rfl
end
end K92

namespace K92
open PySem PySem.Spec PyProof.Rows L2 Y
section
variable {Pr : Program} {w : World} {K : PySem.W.Frag} {mg : Str → Option Value} {base : Heap}
/-! ### with_value, _law_put -/
def pPut : Pm := fun Γ o => ∃ (s : List Int) (k : Nat) (v : Int), Γ = [.va (encT s), .va (.int k), .va (.int v)] ∧ k < s.length ∧ s.length ≤ 1000 ∧ o = .ret (.va (encT (s.set k v)))
theorem scWith : FnScope ["setting", "position", "value"] ["setting", "position", "value"] (defScope sWith) := ⟨rfl, rfl, rfl, by decide +kernel, rfl, by decide +kernel, by decide +kernel⟩
theorem scPut : FnScope ["setting", "at", "value"] ["setting", "at", "value"] (defScope sPut) := ⟨rfl, rfl, rfl, by decide +kernel, rfl, by decide +kernel, by decide +kernel⟩
theorem put_cut {s : List Int} {k : Nat} (v : Int) (h : k < s.length) : s.set k v = s.take k ++ [v] ++ s.drop (k + 1) := by
  rw [List.set_eq_take_append_cons_drop, if_pos h, List.append_assoc]
  rfl
theorem ok_with {f : Addr} {fd : FuncData} (F : Fun K "with_value" "with_value" sWith f fd) : FnOk Pr w K mg base (L2N.CX Pr w) 1 f fd ["setting", "position", "value"] (mkSp K pPut) := by
  refine fn_sds F scWith (fun Γ o ⟨_, _, _, h2, _⟩ => by rw [h2]; rfl) fun cdv A outer s H E hr H0 Oc Γ o ⟨a, k, v, h3, hk, hl, h4⟩ => ?_
  subst h3 h4
  refine ⟨.ret (.va (encT (a.set k v))), ?_, rfl⟩
  have e1 : ((k : Int) + 1) = ((k + 1 : Nat) : Int) := rfl
  have c1 : Y.cutD (a.map D.int) none (some (k : Int)) = (a.take k).map .int := by rw [cutD_map, cutD_upto]
  have c2 : Y.cutD (a.map D.int) (some ((k : Int) + 1)) none = (a.drop (k + 1)).map .int := by rw [e1, cutD_map, cutD_from]
  refine d_ret (ev_catT (ev_catT (ev_slT (vv 0) eo_no (eo_at (vv 1))) (ev_tup (ea_cons (vv 2) ea_nil) rfl (by show 1 ≤ _; decide)) ?_) (ev_slT (vv 0) (eo_at (ev_add (vv 1) ev_int)) eo_no) ?_) ?_
  · rw [c1, List.length_map, List.length_take]
    show _ + 1 ≤ _
    omega
  · rw [c1, c2, List.length_append, List.length_map, List.length_map, List.length_take, List.length_drop]
    show _ + 1 + _ ≤ _
    omega
  · show D.tup _ = D.tup _
    rw [c1, c2, put_cut v hk, List.map_append, List.map_append]
    rfl
theorem ok_put {f : Addr} {fd : FuncData} (F : Fun K "_law_put" "_law_put" sPut f fd) : FnOk Pr w K mg base (L2N.CX Pr w) 1 f fd ["setting", "at", "value"] (mkSp K pPut) := by
  refine fn_sds F scPut (fun Γ o ⟨_, _, _, h2, _⟩ => by rw [h2]; rfl) fun cdv A outer s H E hr H0 Oc Γ o ⟨a, k, v, h3, hk, hl, h4⟩ => ?_
  subst h3 h4
  refine ⟨.ret (.va (encT (a.set k v))), ?_, rfl⟩
  have e1 : ((k : Int) + 1) = ((k + 1 : Nat) : Int) := rfl
  have c1 : Y.cutD (a.map D.int) none (some (k : Int)) = (a.take k).map .int := by rw [cutD_map, cutD_upto]
  have c2 : Y.cutD (a.map D.int) (some ((k : Int) + 1)) none = (a.drop (k + 1)).map .int := by rw [e1, cutD_map, cutD_from]
  refine d_ret (ev_catT (ev_catT (ev_slT (vv 0) eo_no (eo_at (vv 1))) (ev_tup (ea_cons (vv 2) ea_nil) rfl (by show 1 ≤ _; decide)) ?_) (ev_slT (vv 0) (eo_at (ev_add (vv 1) ev_int)) eo_no) ?_) ?_
  · rw [c1, List.length_map, List.length_take]
    show _ + 1 ≤ _
    omega
  · rw [c1, c2, List.length_append, List.length_map, List.length_map, List.length_take, List.length_drop]
    show _ + 1 + _ ≤ _
    omega
  · show D.tup _ = D.tup _
    rw [c1, c2, put_cut v hk, List.map_append, List.map_append]
    rfl
/-! ### the classes -/
structure WebT (K : PySem.W.Frag) (C : Addr) : Prop where
  cl : Cls K C
  noP : NoAttr K C "places"
  noT : NoAttr K C "ties"
  noN : NoAttr K C "near"
structure RowT (K : PySem.W.Frag) (C : Addr) : Prop where
  cl : Cls K C
  noS : NoAttr K C "settings"
structure ColT (K : PySem.W.Frag) (C : Addr) : Prop where
  cl : Cls K C
  noS : NoAttr K C "size"
  noW : NoAttr K C "web"
  noC : NoAttr K C "colours"
def webD (C : Addr) (n : Nat) (T : List (Nat × Nat)) : D := .obj C ["places", "ties", "near"] [.int n, .lst (T.map encN), .lst ((nearV n T).map fun l => .lst (l.map .int))]
def rowD (C : Addr) (rows : List (List Int)) : D := .obj C ["settings"] [.lst (rows.map encT)]
def colD (C CW : Addr) (n c : Nat) (T : List (Nat × Nat)) : D := .obj C ["size", "web", "colours"] [.int n, webD CW n T, .int c]
/-- World.__init__ of an instance of the class at C -/
def pWorld (C : Addr) : Pm := fun Γ o => ∃ n : Int, Γ = [.va (.int n)] ∧ o = .ret (.ow (.obj C ["size"] [.int n]))
theorem scWInit : FnScope ["self", "size"] ["self", "size"] (defScope wInit) := ⟨rfl, rfl, rfl, by decide +kernel, rfl, by decide +kernel, by decide +kernel⟩
theorem ok_winit {f C : Addr} {fd : FuncData} (F : Fun K "__init__" "World.__init__" wInit f fd) (R : ColT K C) : FnOk Pr w K mg base (L2N.CX Pr w) 1 f fd ["self", "size"] (mkSpI K C (pWorld C)) := by
  refine init_sds F scWInit (fun Γ o ⟨n, h2, _⟩ => by rw [h2]; rfl) fun cdv A outer s H E hr H0 Oc Γ o a ⟨n, h2, h3⟩ => ?_
  subst h2 h3
  exact ⟨.nx [.ow (.slf a C ["size"] [.int n]), .va (.int n)], d_fld 0 R.cl R.noS (vv 1) sds_nil, ["size"], [.int n], rfl, rfl⟩
/-! ### Row -/
def pRow (C : Addr) : Pm := fun Γ o => ∃ (n : Nat) (rows : List (List Int)), rows.length ≤ 100000 ∧ 0 < rows.length ∧ (∀ r ∈ rows, r.length = n) ∧ Γ = [.br (.lst (rows.map encT))] ∧ o = .ret (.ow (rowD C rows))
theorem scRInit : FnScope ["self", "settings", "index", "setting"] ["self", "settings"] (defScope rInit) := ⟨rfl, rfl, rfl, by decide +kernel, rfl, by decide +kernel, by decide +kernel⟩
theorem ok_rinit {f C : Addr} {fd : FuncData} (F : Fun K "__init__" "Row.__init__" rInit f fd) (T : Bi mg) (R : RowT K C) : FnOk Pr w K mg base (L2N.CX Pr w) 3 f fd ["self", "settings"] (mkSpI K C (pRow C)) := by
  refine init_sds F scRInit (fun Γ o ⟨_, _, _, _, _, h2, h3⟩ => by rw [h2]; rfl) fun cdv A outer s H E hr H0 Oc Γ o a ⟨n, rows, hl, h0, hn, h2, h3⟩ => ?_
  subst h2 h3
  refine ⟨.nx [.ow (.slf a C ["settings"] [.lst (rows.map encT)]), .br (.lst (rows.map encT)), .no, .no], ?_, ["settings"], [.lst (rows.map encT)], rfl, rfl⟩
  refine sds_ifx (et_not (t_seq (vb 1))) (by intro c; cases rows with | nil => exact absurd h0 (by decide) | cons r rs => simp at c) (fun c => ?_)
  obtain ⟨r, rs, rfl⟩ : ∃ r rs, rows = r :: rs := by cases rows with | nil => exact absurd h0 (by decide) | cons r rs => exact ⟨r, rs, rfl⟩
  have hr0 := hn r List.mem_cons_self
  refine d_forP (enumF 0 (r :: rs)) (fun p => .tup [.int (p.1 : Int), encT p.2]) (fun _ _ => ()) () (fun _ => [.ow (.slf a C [] []), .br (.lst ((r :: rs).map encT)), .no, .no]) (passes_of rfl) rfl (i_enum encT _ T.enum (vr 1)) Sub.refl ?_ ?_
  · intro st p pre post hx hs
    have hp : p.2 ∈ r :: rs := by
      have hm : p ∈ enumF 0 (r :: rs) := by rw [hx]; simp
      obtain ⟨i, hi⟩ := List.getElem?_of_mem hm
      rw [enumF_get] at hi
      cases e : (r :: rs)[i]? with
      | none => rw [e] at hi; cases hi
      | some x =>
        rw [e] at hi
        cases hi
        exact List.mem_of_getElem? e
    have hp := hn p.2 hp
    refine ⟨_, _, t_two 2 3 rfl scRInit.nd, sds_ifx (et_c cm_neI (e_len T.len (vb 3)) (e_len T.len (ev_ixL (d := encT r) (vb 1) ev_int (L2.atI_nat (j := 0) rfl)).r)) (fun d => ?_) (fun d => sds_nil), .eq (.eq (.no (.no .nil)))⟩
    rw [List.length_map, List.length_map, hp, hr0] at d
    simp at d
  · exact d_fld 0 R.cl R.noS (Ev.fz (e_list T.list (vb 1))) sds_nil
end
end K92

namespace K92
open PySem PySem.Spec PyProof.Rows L2 Y
section
variable {Pr : Program} {w : World} {K : PySem.W.Frag} {mg : Str → Option Value} {base : Heap}
/-! ### Web.__init__ -/
def pWeb (C : Addr) : Pm := fun Γ o => ∃ (n : Nat) (F : List (Nat × Nat)), n ≤ 24 ∧ Good n F ∧ Γ = [.va (.int n), .br (.lst (F.map encN))] ∧ o = .ret (.ow (webD C n (sortP F)))
theorem scBInit : FnScope ["self", "places", "ties", "seen", "index", "one", "other", "low", "high", "_"] ["self", "places", "ties"] (defScope bInit) := ⟨rfl, rfl, rfl, by decide +kernel, rfl, by decide +kernel, by decide +kernel⟩
structure WebG (mg : Str → Option Value) : Prop where
  most : ∃ t, mg "MOST_PLACES" = some (.int 24 t)
  mostT : ∃ t, mg "MOST_TIES" = some (.int 60 t)
def seenD (st : List (Nat × (Nat × Nat))) : D := dctT (st.map fun p => toLN p.2) (st.map fun p => .int (p.1 : Int))
theorem hu1 {A : Around} {k : Nat} (hr : Room k A) : A.units + 1 < cLine := by
  have := hr.un
  omega
theorem enum_snd {α : Type} : ∀ (i : Nat) (xs : List α), (enumF i xs).map (·.2) = xs
  | _, [] => rfl
  | i, x :: xs => by
    show x :: (enumF (i + 1) xs).map (·.2) = _
    rw [enum_snd (i + 1) xs]
theorem foldl_snoc {α : Type} : ∀ (xs acc : List α), xs.foldl (fun st b => st ++ [b]) acc = acc ++ xs
  | [], acc => (List.append_nil _).symm
  | x :: xs, acc => by
    rw [List.foldl_cons, foldl_snoc xs, List.append_assoc]
    rfl
theorem ok_binit {f C : Addr} {fd : FuncData} (F : Fun K "__init__" "Web.__init__" bInit f fd) (T : Bi mg) (R : WebT K C) (G : WebG mg) : FnOk Pr w K mg base (L2N.CX Pr w) 3 f fd ["self", "places", "ties"] (mkSpI K C (pWeb C)) := by
  refine init_sds F scBInit (fun Γ o ⟨_, _, _, _, h2, h3⟩ => by rw [h2]; rfl) fun cdv A outer s H E hr H0 Oc Γ o a ⟨n, Fs, hn, gd, h2, h3⟩ => ?_
  subst h2 h3
  have lF := gd.len
  have gs : Good n (sortP Fs) := gd.perm (sortP_perm Fs)
  have lS := gs.len
  refine ⟨.nx [.ow (.slf a C ["places", "ties", "near"] [.int n, .lst ((sortP Fs).map encN), .lst ((nearV n (sortP Fs)).map fun l => .lst (l.map .int))]), .va (.int n), .br (.lst (Fs.map encN)), .ow (seenD (enumF 0 Fs)), .no, .no, .no, .no, .no, .no], ?_, ["places", "ties", "near"], [.int n, .lst ((sortP Fs).map encN), .lst ((nearV n (sortP Fs)).map fun l => .lst (l.map .int))], rfl, rfl⟩
  refine sds_ifx (q := false) (Et.bb (et_w (ew_or (et_c cm_lt (vv 1) ev_int) fun _ => ew_or (et_c cm_gt (vv 1) (e_gint G.most)) fun _ => ew_or1 (et_c cm_gt (e_len T.len (vb 2)) (e_gint G.mostT)))) (by simp only [Bool.or_eq_false_iff, decide_eq_false_iff_not, List.length_map]; omega)) (fun z => nomatch z) (fun _ => ?_)
  refine d_set 3 scBInit.nd ev_dT0 ?_
  refine d_forP (enumF 0 Fs) (fun p => .tup [.int (p.1 : Int), encN p.2]) (fun st b => st ++ [b]) ([] : List (Nat × (Nat × Nat))) (fun st => [.ow (.slf a C [] []), .va (.int n), .br (.lst (Fs.map encN)), .ow (seenD st), .no, .no, .no, .no, .no, .no]) (passes_of rfl) rfl (i_enum encN _ T.enum (vr 2)) ?_ ?_ ?_
  · exact .eq (.eq (.eq (.eq (.eq (.eq (.eq (.eq (.eq (.eq .nil)))))))))
  · intro st p pre post hx hs
    have hs' : st = pre := by rw [hs, foldl_snoc]; rfl
    subst hs'
    have hF : Fs = st.map (·.2) ++ p.2 :: post.map (·.2) := by
      have := congrArg (List.map fun q : Nat × (Nat × Nat) => q.2) hx
      rw [enum_snd, List.map_append, List.map_cons] at this
      exact this
    have hp : p.2 ∈ Fs := by rw [hF]; simp
    have lt := gd.lt p.2 hp
    have nk : toLN p.2 ∉ st.map fun q => toLN q.2 := by
      intro hm
      obtain ⟨q, hq, e⟩ := List.mem_map.mp hm
      have e := toLN_inj e
      have nd := gd.nd
      rw [hF, List.nodup_append] at nd
      exact nd.2.2 q.2 (List.mem_map.mpr ⟨q, hq, rfl⟩) p.2 List.mem_cons_self e
    have ls : st.length ≤ 60 := by
      have := congrArg List.length hF
      rw [List.length_append, List.length_map] at this
      omega
    refine ⟨_, _, t_nest 4 5 6 rfl scBInit.nd, d_set 7 scBInit.nd ((e_min T.min rfl (vv 5) (vv 6)).ii (j := (p.2.1 : Int)) (by omega)) (d_set 8 scBInit.nd ((e_max T.max rfl (vv 5) (vv 6)).ii (j := (p.2.2 : Int)) (by omega))
      (sds_ifx (q := false) (Et.bb (et_w (ew_or (et_c cm_lt (vv 7) ev_int) fun _ => ew_or (et_c cm_ge (vv 8) (vv 1)) fun _ => ew_or (et_c cm_eqI (vv 7) (vv 8)) fun _ => ew_or1 (et_c (c_inT (hu1 hr) (toLN p.2) (st.map fun q => toLN q.2) (st.map fun q => .int (q.1 : Int))) (ev_tup (ea_cons (vv 7) (ea_cons (vv 8) ea_nil)) rfl (by show 2 ≤ _; decide)) (vb 3)))) ?_) (fun z => nomatch z)
      (fun _ => d_dput (k := toLN p.2) 3 (hu1 hr) (vv 4) (ev_tup (ea_cons (vv 7) (ea_cons (vv 8) ea_nil)) rfl (by show 2 ≤ _; decide)) nk ?_ sds_nil))), ?_⟩
    · rw [decide_eq_false nk]
      simp only [Bool.or_eq_false_iff, decide_eq_false_iff_not, and_true, Bool.false_eq_true, not_false_eq_true]
      refine ⟨?_, ?_, ?_⟩ <;> omega
    · rw [List.length_map]; omega
    · exact .eq (.eq (.eq (.eqc (by unfold seenD; rw [List.map_append, List.map_append]; rfl) (.no (.no (.no (.no (.no (.eq .nil)))))))))
  · rw [foldl_snoc, List.nil_append]
    refine d_fld 0 R.cl R.noP (vv 1) ?_
    have eK : ((enumF 0 Fs).map fun p => toLN p.2) = Fs.map toLN := by
      have := congrArg (List.map toLN) (enum_snd 0 Fs)
      rw [List.map_map] at this
      exact this
    refine d_fld 0 R.cl R.noT (d1 := .lst ((sortP Fs).map encN)) (Ev.fz (Ev.aso (d := .lst ((sortL (Fs.map toLN)).map encT)) (e_sortL 2 24 (by decide) T.sorted (Ev.r (Ev.aso (d' := .lst ((Fs.map toLN).map encT)) (e_listT T.list rfl (vb 3)) (by rw [eK]))) (by rw [List.length_map]; omega) fun x hx => ?_) (by rw [sortP_enc]))) ?_
    · obtain ⟨t, ht, rfl⟩ := List.mem_map.mp hx
      have := gd.lt t ht
      refine ⟨rfl, fun m hm => ?_⟩
      unfold toLN at hm
      simp at hm
      rcases hm with rfl | rfl <;> omega
    rw [show ((nearV n (sortP Fs)).map fun l => D.lst (l.map .int)) = ((sortP Fs).foldl stepG (List.replicate n [])).map fun l => D.lst (l.map .int) by rw [adj_eq gs.lt]]
    refine sds_grid (m := n) (ix := 9) (u := "_") 0 (sortP Fs) encN (by rfl) (by rfl) (by rfl) R.cl R.noN (by decide) (by decide) (by rfl) (by first | exact .inl rfl | exact .inr (.inl rfl) | exact .inr (.inr rfl)) (by rfl) (by rfl) (passes_of rfl) (by rfl) scBInit.nd (blkOk_by (by rfl)) T.range (by rfl) (vv 1) (by omega) (by omega) (fun y hy => ⟨Nat.lt_trans (gs.lt y hy).1 (gs.lt y hy).2, (gs.lt y hy).2⟩)
      (fun _ _ _ _ _ => pg_name scBInit.nd (by rfl) (by first | exact .inl rfl | exact .inr rfl) (by first | exact .inr rfl | exact .inl rfl)) (by rfl) (by rfl) (by intro _; rfl) (by intro _; rfl) (by rfl) (fun w => ei_lst (ev_fld R.cl R.noT (Ev.ob (vb 0)) rfl) rfl)
      (fun w y hy => ⟨_, t_two 7 8 rfl scBInit.nd, ?_, rfl, ev_fld R.cl R.noN (Ev.ob (vb 0)) rfl, vv 7, vv 8, ev_fld R.cl R.noN (Ev.ob (vb 0)) rfl, vv 8, vv 7⟩)
      (fun a1 a2 a3 a4 a5 a6 a7 a8 a9 b1 b2 b3 b4 b5 => wp_gapp a1 a2 a3 a4 a5 a6 a7 a8 a9 b1 b2 b3 b4 b5 (fun _ _ => rfl) rfl rfl rfl rfl rfl rfl)
      (fun a1 a2 a3 a4 a5 a6 a7 a8 a9 b1 b2 b3 b4 b5 => wp_gapp a1 a2 a3 a4 a5 a6 a7 a8 a9 b1 b2 b3 b4 b5 (fun _ _ => rfl) rfl rfl rfl rfl rfl rfl) sds_nil
    exact .eq (.eq (.eq (.eq (.eq (.eq (.eq (.no (.no (.eq .nil)))))))))
end
end K92

namespace K92
open PySem PySem.Spec PyProof.Rows L2 Y
section
variable {Pr : Program} {w : World} {K : PySem.W.Frag} {mg : Str → Option Value} {base : Heap}
/-! ### Colours.__init__ -/
def pCol (C CW CB : Addr) : Pm := fun Γ o => ∃ (n : Nat) (T : List (Nat × Nat)) (c : Int), Γ = [.va (webD CW n T), .va (.int c)] ∧ o = if 14 < n ∨ c < 1 ∨ 8 < c then .exc CB ["index"] [.int (-1)] none else .ret (.ow (colD C CW n c.toNat T))
def NC : List Str := ["self", "web", "colours", "__class__"]
structure ColG (Pr : Program) (K : PySem.W.Frag) (mg : Str → Option Value) (C CB fO fW cda cc : Addr) (fdO : FuncData) : Prop where
  at_ : Sup.SupAt Pr K mg fO cda cc C fdO "self"
  su : Sup.SupI K C C fW
  err : Sup.Ex1 Pr K mg "BadWorld" "index" CB
  gC : mg "Colours" = some (.ref C)
  rd : ClX.CRead K C (.type "type")
  most : ∃ u, ClX.CVal K C (.type "type") "MOST_PLACES" (.int 14) u
  mostC : ∃ u, ClX.CVal K C (.type "type") "MOST_COLOURS" (.int 8) u
theorem ok_cinit {fO fW C CW CB cda cc : Addr} {fdW : FuncData} {dV kV doc pm ct oc : Value} {an od : Option Addr} {osl : Array (Option Value)} (T : Bi mg) (R : ColT K C) (B : WebT K CW)
    (lk : K.lookup fO = some ⟨oc, od, .func (PySem.W.fnX "__init__" "Colours.__init__" (defArgs cInit) (defBody cInit) (defScope cInit) [("__class__", cc)] dV kV doc pm an (.ref cda) ct), osl⟩) (hcd : PySem.W.codeIn K (.ref cda) "Colours.__init__" = true)
    (hcell : ∃ cl cld csl, K.lookup cc = some ⟨cl, cld, .cell (some (.ref C)), csl⟩) (G : ColG Pr K mg C CB fO fW cda cc (PySem.W.fnX "__init__" "Colours.__init__" (defArgs cInit) (defBody cInit) (defScope cInit) [("__class__", cc)] dV kV doc pm an (.ref cda) ct))
    (FW : FnOk Pr w K mg base (L2N.CX Pr w) 1 fW fdW ["self", "size"] (mkSpI K C (pWorld C))) (bW : L2.Binds K fdW ["self", "size"] []) :
    FnOk Pr w K mg base (L2N.CX Pr w) 4 fO (PySem.W.fnX "__init__" "Colours.__init__" (defArgs cInit) (defBody cInit) (defScope cInit) [("__class__", cc)] dV kV doc pm an (.ref cda) ct) ["self", "web", "colours"] (mkSpI K C (pCol C CW CB)) := by
  refine initS_sds (N := NC) lk hcd (NdefX.nscope_by (by decide +kernel)) hcell (fun Γ o ⟨_, _, _, h2, _⟩ => by rw [h2]; rfl) fun A outer s H E hr H0 Oc Γ o a ⟨n, Ts, c, h3, h4⟩ => ?_
  subst h3
  obtain ⟨u1, mp⟩ := G.most
  obtain ⟨u2, mc⟩ := G.mostC
  have if1 : ∀ (q : Bool), q = (decide ((14 : Int) < (n : Int)) || (decide (c < 1) || decide (8 < c))) → ∀ {out : Out}, (q = true → out = .exc CB ["index"] [.int (-1)] none) → (q = false → out = .nx [.ow (.slf a C [] []), .va (webD CW n Ts), .va (.int c), .va (.opq (.ref C))]) →
      Sds (NdefX.ncx (L2N.CX Pr w) Pr w K mg base NC ⟨"__init__", "Colours.__init__", defArgs cInit, defBody cInit, defScope cInit, [("__class__", cc)], cda⟩ fO A outer s H E) (wx E) H0 Oc [.ow (.slf a C [] []), .va (webD CW n Ts), .va (.int c), .va (.opq (.ref C))] [(defBody cInit).getD 0 (.Pass ⟨0, 0, 0, 0⟩)] out := fun q hq out o1 o2 => by
    refine sds_if (q := q) (Et.bb (et_w (ew_or (et_c cm_gt (ev_fld B.cl B.noP (vb 1) rfl) (ev_cval (e_cls G.gC) G.rd mp)) fun _ => ew_or (et_c cm_lt (vv 2) ev_int) fun _ => ew_or1 (et_c cm_gt (vv 2) (ev_cval (e_cls G.gC) G.rd mc)))) (by rw [hq])) (fun c => ?_) (fun c => ?_)
    · rw [o1 c]
      exact ⟨_, Sds.low (sds_raise1 rfl (L2N.takes_of rfl rfl rfl rfl) G.err (hr.mono (by decide)) rfl (ev_neg ev_int)), rfl⟩
    · rw [o2 c]
      exact ⟨_, sds_nil, sds_nil⟩
  by_cases hbad : 14 < n ∨ c < 1 ∨ 8 < c
  · rw [if_pos hbad] at h4
    subst h4
    refine ⟨.exc CB ["index"] [.int (-1)] none, sa_exit (if1 true ?_ (fun _ => rfl) fun z => nomatch z) rfl, none, rfl⟩
    symm
    simp only [Bool.or_eq_true, decide_eq_true_eq]
    omega
  rw [if_neg hbad] at h4
  subst h4
  have ec : ((c.toNat : Nat) : Int) = c := Int.toNat_of_nonneg (by omega)
  have if2 := if1 false (by symm; simp only [Bool.or_eq_false_iff, decide_eq_false_iff_not]; omega) (out := .nx [.ow (.slf a C [] []), .va (webD CW n Ts), .va (.int c), .va (.opq (.ref C))]) (fun z => nomatch z) fun _ => rfl
  refine ⟨.nx [.ow (.slf a C ["size", "web", "colours"] [.int n, webD CW n Ts, .int c]), .va (webD CW n Ts), .va (.int c), .va (.opq (.ref C))], ?_, ["size", "web", "colours"], [.int n, webD CW n Ts, .int c], rfl, ?_⟩
  · refine sa_cons if2 ?_
    refine sa_super (P2 := pWorld C) (ns := ["size"]) (es2 := [.int n]) (ds := [.int n]) 0 3 G.at_ G.su FW (hr.mono (by decide)) bW rfl rfl rfl (ea_cons (ev_fld B.cl B.noP (vb 1) rfl) ea_nil) rfl ⟨n, rfl, rfl⟩ ?_ rfl rfl
    refine sa_of (d_fld 0 R.cl R.noW (vv 1) ?_)
    exact d_fld 0 R.cl R.noC (vv 2) sds_nil
  · unfold colD
    rw [ec]
/-! ### is_answer -/
def pIsAns (C CW : Addr) : Pm := fun Γ o => ∃ (s0 : Sl) (n c : Nat) (T : List (Nat × Nat)) (s : List Int), Γ = [s0, .va (encT s)] ∧ One s0 (colD C CW n c T) ∧ Good n T ∧ s.length ≤ 1000 ∧ o = .ret (.va (.bl (okC n c T s)))
theorem scIsAns : FnScope ["self", "setting", "value", "low", "high"] ["self", "setting"] (defScope cIsAns) := ⟨rfl, rfl, rfl, by decide +kernel, rfl, by decide +kernel, by decide +kernel⟩
theorem ok_isAns {f C CW : Addr} {fd : FuncData} (F : Fun K "is_answer" "Colours.is_answer" cIsAns f fd) (T : Bi mg) (R : ColT K C) (B : WebT K CW) : FnOk Pr w K mg base (L2N.CX Pr w) 2 f fd ["self", "setting"] (mkSp K (pIsAns C CW)) := by
  refine fn_sds F scIsAns (fun Γ o ⟨_, _, _, _, _, h2, _⟩ => by rw [h2]; rfl) fun cdv A outer s H E hr H0 Oc Γ o ⟨s0, n, c, Ts, st, h3, h1, gd, hl, h4⟩ => ?_
  subst h3 h4
  have q0 : s0.arg.dat = some (colD C CW n c Ts) := by rw [← h1]; cases s0 <;> rfl
  have lT := gd.len
  refine ⟨.ret (.va (.bl (okC n c Ts st))), ?_, rfl⟩
  refine d_ifx (et_w (ew_or (et_c cm_neI (e_len T.len (vb 1)) (ev_fld R.cl R.noS (vb 0 rfl h1) rfl)) fun _ => ew_or1 (et_not (et_val (e_allL (fun v => decide (0 ≤ v) && decide (v < (c : Int))) T.all rfl (e_lc (own := [("value", 2)]) st .int (fun v => .bl (decide (0 ≤ v) && decide (v < (c : Int)))) (fun v => [s0.arg, .va (encT st), .va (.int v), .no, .no]) rfl scIsAns.nd (blkOk_by (by rfl)) (ei_tup (vv 1) rfl) (by omega)
      (fun x hx _ _ _ _ _ _ _ => tw_name 2 scIsAns.nd) (fun v _ => ⟨stab_arg (G := [s0, .va (encT st), .va (.int v), .no, .no]), .eq (.eq (.no (.eq (.eq .nil))))⟩) (fun v hv _ _ _ _ _ _ _ => ev_lelt ev_int (vv 2) (ev_fld R.cl R.noC (vb 0 rfl q0) rfl)))))))) rfl (fun cc => d_ret ev_bl ?_) (fun cc => ?_)
  · unfold okC
    rw [List.length_map] at cc
    have e2 : decide ((st.length : Int) = (n : Int)) = decide (st.length = n) := decide_eq_decide.mpr ⟨fun h => by omega, fun h => by omega⟩
    rw [e2] at cc
    cases h1 : decide (st.length = n) <;> cases h2 : st.all (fun v => decide (0 ≤ v) && decide (v < (c : Int))) <;> rw [h1, h2] at cc <;> simp at cc ⊢
  · rw [List.length_map] at cc
    have hh : st.length = n ∧ (st.all fun v => decide (0 ≤ v) && decide (v < (c : Int))) = true := by
      cases h2 : st.all (fun v => decide (0 ≤ v) && decide (v < (c : Int))) <;> rw [h2] at cc <;> simp at cc
      exact ⟨by omega, rfl⟩
    refine d_ret (e_allL (fun t : Nat × Nat => !decide (st.getD t.1 0 = st.getD t.2 0)) T.all rfl (e_lc (own := [("low", 3), ("high", 4)]) Ts encN (fun t => .bl (!decide (st.getD t.1 0 = st.getD t.2 0))) (fun t => [s0.arg, .va (encT st), .no, .va (.int t.1), .va (.int t.2)]) rfl scIsAns.nd (blkOk_by (by rfl)) (ei_lst (ev_fld B.cl B.noT (Ev.r (ev_fld R.cl R.noW (vb 0 rfl h1) rfl)) rfl) rfl) (by omega)
      (fun x hx _ _ _ _ _ _ _ => tw_two 3 4 rfl scIsAns.nd) (fun t _ => ⟨stab_arg (G := [s0, .va (encT st), .no, .va (.int t.1), .va (.int t.2)]), .eq (.eq (.eq (.no (.no .nil))))⟩) ?_)) ?_
    · intro t ht _ _ _ _ _ _ _
      have lt := gd.lt t ht
      exact ev_c cm_neI (ev_ixT (d := .int (st.getD t.1 0)) (vb 1) (vv 3) (atI_map (getD_at (by omega)))) (ev_ixT (d := .int (st.getD t.2 0)) (vb 1) (vv 4) (atI_map (getD_at (by omega))))
    · unfold okC
      rw [decide_eq_true hh.1, hh.2]
      rfl
/-! ### check_answer -/
def pCheck (C CW CN : Addr) : Pm := fun Γ o => ∃ (s0 : Sl) (n c : Nat) (T : List (Nat × Nat)) (s : List Int), Γ = [s0, .va (encT s)] ∧ One s0 (colD C CW n c T) ∧ Good n T ∧ s.length ≤ 1000 ∧ o = if okC n c T s = true then .ret (.va .non) else .exc CN ["setting"] [encT s] none
theorem scCheck : FnScope ["world", "setting"] ["world", "setting"] (defScope sCheck) := ⟨rfl, rfl, rfl, by decide +kernel, rfl, by decide +kernel, by decide +kernel⟩
theorem ok_check {f C CW CN : Addr} {fd : FuncData} (F : Fun K "check_answer" "check_answer" sCheck f fd) (R : ColT K C) (N : Sup.Ex1 Pr K mg "NotAnAnswer" "setting" CN) (M : MtG Pr w K mg base C "is_answer" 2 ["self", "setting"] (pIsAns C CW)) : FnOk Pr w K mg base (L2N.CX Pr w) 4 f fd ["world", "setting"] (mkSp K (pCheck C CW CN)) := by
  refine fn_sds F scCheck (fun Γ o ⟨_, _, _, _, _, h2, _⟩ => by rw [h2]; rfl) fun cdv A outer s H E hr H0 Oc Γ o ⟨s0, n, c, Ts, st, h3, h1, gd, hl, h4⟩ => ?_
  subst h3
  have me : Et (cxOf (L2N.CX Pr w) Pr w K mg base ["world", "setting"] "check_answer" (defScope sCheck) f cdv A outer s H E) H0 Oc [s0, .va (encT st)] (match (defBody sCheck).getD 0 (.Pass ⟨0, 0, 0, 0⟩) with | .If c _ _ _ => c | _ => .Name "x" ⟨0, 0, 0, 0⟩) (!okC n c Ts st) := et_not (et_val (ev_meth R.cl M (hr.mono (by decide)) (vb 0 rfl h1) rfl (by decide) (ea_cons (vv 1) ea_nil) ⟨_, n, c, Ts, st, rfl, rfl, gd, hl, rfl⟩))
  cases hk : okC n c Ts st with
  | true =>
    rw [hk, if_pos rfl] at h4
    subst h4
    rw [hk] at me
    exact ⟨.nx [s0, .va (encT st)], sds_ifx me (fun z => nomatch z) (fun _ => sds_nil), rfl⟩
  | false =>
    rw [hk, if_neg (by decide)] at h4
    subst h4
    rw [hk] at me
    exact ⟨.exc CN ["setting"] [encT st] none, sds_ifx me (fun _ => ⟨Sds.low (sds_raise1 rfl (L2N.takes_of rfl rfl rfl rfl) N (hr.mono (by decide)) rfl (vv 1)), rfl⟩) (fun z => nomatch z), none, rfl⟩
end
end K92

namespace K92
open PySem PySem.Spec PyProof.Rows L2 Y
theorem nb_len {n : Nat} {T : List (Nat × Nat)} (p : Nat) : (nb T p).length ≤ T.length := by
  unfold nb
  exact List.length_filterMap_le _ _
def mostV (n : Nat) (T : List (Nat × Nat)) : Int := mxDef 0 ((nearV n T).map fun l => (l.length : Int))
section
variable {Pr : Program} {w : World} {K : PySem.W.Frag} {mg : Str → Option Value} {base : Heap}
/-! ### next_answers of a frozen colouring -/
def Frz (n c : Nat) (T : List (Nat × Nat)) (s : List Int) : Prop := ∀ p, p < n → ∀ k : Nat, k < c → (k : Int) = s.getD p 0 ∨ (k : Int) ∈ takenV T s p
def pNext (C CW : Addr) : Pm := fun Γ o => ∃ (s0 : Sl) (n c : Nat) (T : List (Nat × Nat)) (s : List Int), Γ = [s0, .va (encT s)] ∧ One s0 (colD C CW n c T) ∧ stab [s0] = true ∧ Good n T ∧ s.length = n ∧ n ≤ 1000 ∧ c ≤ 1000 ∧ Frz n c T s ∧ o = .ret (.ow (.lst []))
theorem scNext : FnScope ["self", "setting", "found", "place", "barred", "other", "colour"] ["self", "setting"] (defScope cNext) := ⟨rfl, rfl, rfl, by decide +kernel, rfl, by decide +kernel, by decide +kernel⟩
theorem ok_next {f C CW : Addr} {fd : FuncData} (F : Fun K "next_answers" "Colours.next_answers" cNext f fd) (T : Bi mg) (R : ColT K C) (B : WebT K CW) : FnOk Pr w K mg base (L2N.CX Pr w) 2 f fd ["self", "setting"] (mkSp K (pNext C CW)) := by
  refine fn_sds F scNext (fun Γ o ⟨_, _, _, _, _, h2, _⟩ => by rw [h2]; rfl) fun cdv A outer s H E hr H0 Oc Γ o ⟨s0, n, c, Ts, st, h3, h1, hst, gd, hl, hn, hc, fz, h4⟩ => ?_
  subst h3 h4
  have q0 : s0.arg.dat = some (colD C CW n c Ts) := by rw [← h1]; cases s0 <;> rfl
  have lT := gd.len
  refine ⟨.ret (.ow (.lst [])), ?_, rfl⟩
  refine d_set 2 scNext.nd (ev_lst ea_nil rfl (by decide)) ?_
  refine d_forP (List.range n) (fun k : Nat => .int k) (fun _ _ => ()) () (fun _ => [s0, .va (encT st), .ow (.lst []), .no, .no, .no, .no]) (passes_of rfl) rfl (i_rng T.range (ev_fld R.cl R.noS (vb 0 rfl h1) rfl) (by omega)) Sub.refl ?_ ?_
  · intro _ p pre post hx hs
    have hp : p < n := rng_lt hx
    have ein : D.lst ((st.getD p 0 :: takenV Ts st p).map .int) = .lst ([D.int (st.getD p 0)] ++ ((nb Ts p).map fun q : Nat => D.int (st.getD q 0))) := by
      unfold takenV
      rw [List.map_cons, List.map_map]
      rfl
    have bq : Ev (cxOf (L2N.CX Pr w) Pr w K mg base ["self", "setting", "found", "place", "barred", "other", "colour"] "Colours.next_answers" (defScope cNext) f cdv A outer s H E) H0 Oc [s0, .va (encT st), .ow (.lst []), .va (.int p), .no, .no, .no]
        (match (match (defBody cNext).getD 1 (.Pass ⟨0, 0, 0, 0⟩) with | .For _ _ b _ _ => b.getD 0 (.Pass ⟨0, 0, 0, 0⟩) | x => x) with | .Assign _ e _ => e | _ => .Name "x" ⟨0, 0, 0, 0⟩) (.ow (.lst ((st.getD p 0 :: takenV Ts st p).map .int))) := by
      rw [ein]
      refine ev_catL (Ev.r (s := .ow (.lst [D.int (st.getD p 0)])) (ev_lst (ea_cons (ev_ixT (d := .int (st.getD p 0)) (vb 1) (vv 3) (atI_map (getD_at (by omega)))) ea_nil) rfl (by show 1 ≤ _; decide)) rfl) (Ev.r (s := .ow (.lst ((nb Ts p).map fun q : Nat => D.int (st.getD q 0)))) (e_lc (own := [("other", 5)]) (nb Ts p) (fun q : Nat => .int (q : Int)) (fun q : Nat => .int (st.getD q 0)) (fun q => [s0.arg, .va (encT st), .br (.lst []), .va (.int p), .no, .va (.int q), .no]) rfl scNext.nd (blkOk_by (by rfl)) (ei_lst (ev_ixL (d := .lst ((nb Ts p).map fun q : Nat => .int (q : Int))) (Ev.r (ev_fld B.cl B.noN (Ev.r (ev_fld R.cl R.noW (vb 0 rfl h1) rfl)) rfl)) (vv 3) ?_) rfl) ?_
        (fun x hx _ _ _ _ _ _ _ => tw_name 5 scNext.nd) (fun q _ => ⟨stab_arg (G := [s0, .va (encT st), .ow (.lst []), .va (.int p), .no, .va (.int q), .no]), .eq (.eq (.eq (.eq (.eq (.no (.eq .nil))))))⟩) (fun q hq _ _ _ _ _ _ _ => ev_ixT (d := .int (st.getD q 0)) (vb 1) (vv 5) (atI_map (getD_at (by have := gd.nb_lt hq; omega))))) rfl) ?_
      · have := nearV_at (T := Ts) hp
        exact L2.atI_nat (by rw [List.getElem?_map, this]; simp [List.map_map, Function.comp])
      · have := nb_len (n := n) (T := Ts) p
        omega
      · have := nb_len (n := n) (T := Ts) p
        rw [List.length_map]
        show 1 + _ ≤ _
        omega
    refine ⟨_, [s0, .va (encT st), .ow (.lst []), .va (.int p), .ow (.lst ((st.getD p 0 :: takenV Ts st p).map .int)), .no, .no], t_name 3 scNext.nd, d_set 4 scNext.nd bq ?_, ?_⟩
    · refine d_forP (List.range c) (fun k : Nat => .int k) (fun _ _ => ()) () (fun _ => [s0, .va (encT st), .ow (.lst []), .va (.int p), .ow (.lst ((st.getD p 0 :: takenV Ts st p).map .int)), .no, .no]) (passes_of rfl) rfl (i_rng T.range (ev_fld R.cl R.noC (vb 0 rfl h1) rfl) (by omega)) Sub.refl ?_ ?_
      · intro _ k pre post hx hs
        have hk : k < c := rng_lt hx
        have hm : (k : Int) ∈ st.getD p 0 :: takenV Ts st p := by
          rcases fz p hp k hk with h | h
          · exact List.mem_cons.mpr (.inl h)
          · exact List.mem_cons.mpr (.inr h)
        refine ⟨_, _, t_name 6 scNext.nd, sds_ifn (q := false) _ (Et.bb (et_c (c_ninLI (k : Int) _) (vv 6) (vb 4)) (by rw [decide_eq_true hm]; rfl)) (fun z => nomatch z) (fun _ => sds_nil) sds_nil, .eq (.eq (.eq (.eq (.eq (.eq (.no .nil))))))⟩
      · exact sds_nil
    · exact .eq (.eq (.eq (.no (.no (.eq (.eq .nil))))))
  · refine d_retO (d := .lst ((sortL []).map encT)) (e_sortL (L := []) 1 0 (by decide) T.sorted (vo 2) (by decide) fun x hx => nomatch hx) ?_
    rw [show sortL [] = [] by decide +kernel]
    rfl
/-! ### most_beside, spare_colour -/
def pMost (CW : Addr) : Pm := fun Γ o => ∃ (s0 : Sl) (n : Nat) (T : List (Nat × Nat)), Γ = [s0] ∧ One s0 (webD CW n T) ∧ n ≤ 1000 ∧ o = .ret (.va (.int (mostV n T)))
theorem scMost : FnScope ["web", "near"] ["web"] (defScope sMost) := ⟨rfl, rfl, rfl, by decide +kernel, rfl, by decide +kernel, by decide +kernel⟩
theorem ok_most {f CW : Addr} {fd : FuncData} (F : Fun K "most_beside" "most_beside" sMost f fd) (T : Bi mg) (B : WebT K CW) : FnOk Pr w K mg base (L2N.CX Pr w) 1 f fd ["web"] (mkSp K (pMost CW)) := by
  refine fn_sds F scMost (fun Γ o ⟨_, _, _, h2, _⟩ => by rw [h2]; rfl) fun cdv A outer s H E hr H0 Oc Γ o ⟨s0, n, Ts, h3, h1, hn, h4⟩ => ?_
  subst h3 h4
  have q0 : s0.arg.dat = some (webD CW n Ts) := by rw [← h1]; cases s0 <;> rfl
  refine ⟨.ret (.va (.int (mostV n Ts))), ?_, rfl⟩
  refine d_ret (e_mxD (kw := "default") (kp := ⟨0, 0, 0, 0⟩) (ns := (nearV n Ts).map fun l => (l.length : Int)) T.max rfl (hu64 hr) ?_ ev_int (fun h => pk_cons h pk_nil)) rfl
  exact (Ev.r (s := .ow (.lst (((nearV n Ts).map fun l => (l.length : Int)).map .int))) (Ev.aso (e_lc (own := [("near", 1)]) (nearV n Ts) (fun l => .lst (l.map .int)) (fun l => .int (l.length : Int)) (fun l => [s0.arg, .va (.lst (l.map .int))]) rfl scMost.nd (blkOk_by (by rfl)) (ei_lst (ev_fld B.cl B.noN (vb 0 rfl h1) rfl) rfl) (by unfold nearV; rw [List.length_map, List.length_range]; omega)
    (fun x hx _ _ _ _ _ _ _ => tw_name 1 scMost.nd) (fun l _ => ⟨stab_arg (G := [s0, .va (.lst (l.map .int))]), .eq (.no .nil)⟩) (fun l hl _ _ _ _ _ _ _ => (e_len T.len (vb 1)).ii (by rw [List.length_map]))) (by rw [List.map_map]; rfl)) rfl)
def pSpare (CW : Addr) : Pm := fun Γ o => ∃ (s0 : Sl) (n c : Nat) (T : List (Nat × Nat)) (s : List Int) (p : Nat) (b : Int), Γ = [s0, .va (.int c), .va (encT s), .va (.int p), .va (.int b)] ∧ One s0 (webD CW n T) ∧ Good n T ∧ s.length = n ∧ p < n ∧ c ≤ 1000 ∧ n ≤ 1000 ∧ 0 < (sparesV c T s p b).length ∧ o = .ret (.va (.int (spareV c T s p b)))
theorem scSpare : FnScope ["web", "colours", "setting", "place", "barred", "taken", "other", "colour"] ["web", "colours", "setting", "place", "barred"] (defScope sSpare) := ⟨rfl, rfl, rfl, by decide +kernel, rfl, by decide +kernel, by decide +kernel⟩
theorem ok_spare {f CW : Addr} {fd : FuncData} (F : Fun K "spare_colour" "spare_colour" sSpare f fd) (T : Bi mg) (B : WebT K CW) : FnOk Pr w K mg base (L2N.CX Pr w) 1 f fd ["web", "colours", "setting", "place", "barred"] (mkSp K (pSpare CW)) := by
  refine fn_sds F scSpare (fun Γ o ⟨_, _, _, _, _, _, _, h2, _⟩ => by rw [h2]; rfl) fun cdv A outer s H E hr H0 Oc Γ o ⟨s0, n, c, Ts, st, p, b, h3, h1, gd, hl, hp, hc, hn, hs, h4⟩ => ?_
  subst h3 h4
  have q0 : s0.arg.dat = some (webD CW n Ts) := by rw [← h1]; cases s0 <;> rfl
  have lT := gd.len
  have ln := nb_len (n := n) (T := Ts) p
  refine ⟨.ret (.va (.int (spareV c Ts st p b))), ?_, rfl⟩
  refine d_set 5 scSpare.nd (s := .ow (.lst ((takenV Ts st p).map .int))) (Ev.aso (e_lc (own := [("other", 6)]) (nb Ts p) (fun q : Nat => .int (q : Int)) (fun q : Nat => .int (st.getD q 0)) (fun q => [s0.arg, .va (.int c), .va (encT st), .va (.int p), .va (.int b), .no, .va (.int q), .no]) rfl scSpare.nd (blkOk_by (by rfl)) (ei_lst (ev_ixL (d := .lst ((nb Ts p).map fun q : Nat => .int (q : Int))) (Ev.r (ev_fld B.cl B.noN (vb 0 rfl h1) rfl)) (vv 3) ?_) rfl) (by omega)
        (fun x hx _ _ _ _ _ _ _ => tw_name 6 scSpare.nd) (fun q _ => ⟨stab_arg (G := [s0, .va (.int c), .va (encT st), .va (.int p), .va (.int b), .no, .va (.int q), .no]), .eq (.eq (.eq (.eq (.eq (.eq (.no (.eq .nil)))))))⟩) (fun q hq _ _ _ _ _ _ _ => ev_ixT (d := .int (st.getD q 0)) (vb 2) (vv 6) (atI_map (getD_at (by have := gd.nb_lt hq; omega))))) (by unfold takenV; rw [List.map_map]; rfl)) ?_
  · have := nearV_at (T := Ts) hp
    exact L2.atI_nat (by rw [List.getElem?_map, this]; simp [List.map_map, Function.comp])
  · refine d_ret (ev_ixL (d := .int (spareV c Ts st p b)) (Ev.r (s := .ow (.lst ((sparesV c Ts st p b).map .int))) (Ev.aso (e_lcf (own := [("colour", 7)]) (List.range c) (fun k : Nat => .int k) (fun k : Nat => !decide ((k : Int) = b) && !decide ((k : Int) ∈ takenV Ts st p)) (fun k : Nat => .int k) (fun k => [s0.arg, .va (.int c), .va (encT st), .va (.int p), .va (.int b), .br (.lst ((takenV Ts st p).map .int)), .no, .va (.int k)]) rfl scSpare.nd (blkOk_by (by rfl)) (i_rng T.range (vv 1) (by omega)) (by rw [List.length_range]; omega)
        (fun x hx _ _ _ _ _ _ _ => tw_name 7 scSpare.nd) (fun k _ => ⟨stab_arg (G := [s0, .va (.int c), .va (encT st), .va (.int p), .va (.int b), .ow (.lst ((takenV Ts st p).map .int)), .no, .va (.int k)]), .eq (.eq (.eq (.eq (.eq (.eq (.eq (.no .nil)))))))⟩)
        (fun k hk _ _ _ _ _ _ _ => et_w (ew_and (et_c cm_neI (vv 7) (vv 4)) fun _ => ew_and1 (et_c (c_ninLI (k : Int) _) (vv 7) (vb 5)))) (fun k hk _ _ _ _ _ _ _ _ => vv 7)) ?_) rfl) ev_int ?_) rfl
    · unfold sparesV colsV
      rw [List.filter_map, List.map_map]
      rfl
    · exact L2.atI_nat (j := 0) (by rw [List.getElem?_map, getD_at hs]; rfl)
end
end K92

namespace K92
open PySem PySem.Spec PyProof.Rows L2 Y
theorem range_pre {n p : Nat} {pre post : List Nat} (h : List.range n = pre ++ p :: post) : pre = List.range p ∧ p < n := by
  have hp := rng_lt h
  have l := congrArg List.length h
  rw [List.length_range, List.length_append, List.length_cons] at l
  have e1 : (List.range n)[pre.length]? = some p := by rw [h, List.getElem?_append_right (Nat.le_refl _), Nat.sub_self]; rfl
  rw [List.getElem?_range (by omega)] at e1
  have e1 : pre.length = p := Option.some.inj e1
  refine ⟨?_, hp⟩
  have e2 := congrArg (List.take pre.length) h
  rw [List.take_left, List.take_range, show min pre.length n = p by omega] at e2
  exact e2.symm
theorem most_ge {n : Nat} {T : List (Nat × Nat)} {p : Nat} (h : p < n) : ((nb T p).length : Int) ≤ mostV n T := by
  have hm : (((nb T p).length : Nat) : Int) ∈ (nearV n T).map fun l => (l.length : Int) := List.mem_map.mpr ⟨_, List.mem_of_getElem? (nearV_at h), by rw [List.length_map]⟩
  unfold mostV
  cases e : (nearV n T).map fun l => (l.length : Int) with
  | nil => rw [e] at hm; cases hm
  | cons a as =>
    rw [e] at hm
    show _ ≤ mxI a as
    have := mxI_ge a as
    rcases List.mem_cons.mp hm with h | h
    · rw [h]; exact this.1
    · exact this.2 _ h
theorem most_nn {n : Nat} {T : List (Nat × Nat)} : 0 ≤ mostV n T := by
  unfold mostV
  cases e : (nearV n T).map fun l => (l.length : Int) with
  | nil => exact Int.le_refl _
  | cons a as =>
    show 0 ≤ mxI a as
    have := (mxI_ge a as).1
    have hm : a ∈ (nearV n T).map fun l => (l.length : Int) := by rw [e]; simp
    obtain ⟨l, _, rfl⟩ := List.mem_map.mp hm
    omega
def leadO (CR CB CF CN : Addr) (n : Nat) (c : Int) (T : List (Nat × Nat)) (a b : List Int) : Out :=
  if 14 < n ∨ c < 1 ∨ 8 < c then .exc CB ["index"] [.int (-1)] none
  else if c < mostV n T + 2 then .exc CF ["needed"] [.int (mostV n T + 2)] none
  else if okC n c.toNat T a = false then .exc CN ["setting"] [encT a] none
  else if okC n c.toNat T b = false then .exc CN ["setting"] [encT b] none
  else .ret (.ow (rowD CR (leadV n c.toNat T a b)))
def pLead (CW CR CB CF CN : Addr) : Pm := fun Γ o => ∃ (n : Nat) (c : Int) (T : List (Nat × Nat)) (a b : List Int), Γ = [.va (webD CW n T), .va (.int c), .va (encT a), .va (encT b)] ∧ Good n T ∧ n ≤ 24 ∧ a.length ≤ 1000 ∧ b.length ≤ 1000 ∧ o = leadO CR CB CF CN n c T a b
theorem scLead : FnScope ["web", "colours", "start", "goal", "world", "needed", "settings", "place", "wanted", "other", "now"] ["web", "colours", "start", "goal"] (defScope sLead) := ⟨rfl, rfl, rfl, by decide +kernel, rfl, by decide +kernel, by decide +kernel⟩
section
variable {Pr : Program} {w : World} {K : PySem.W.Frag} {mg : Str → Option Value} {base : Heap}
structure LeadG (Pr : Program) (w : World) (K : PySem.W.Frag) (mg : Str → Option Value) (base : Heap) (C CW CR CB CF CN : Addr) : Prop where
  mak : ClG Pr w K mg base "Colours" C 4 ["self", "web", "colours"] (pCol C CW CB)
  most : FnG Pr w K mg base "most_beside" 1 ["web"] (pMost CW)
  few : Sup.Ex1 Pr K mg "TooFew" "needed" CF
  chk : FnG Pr w K mg base "check_answer" 4 ["world", "setting"] (pCheck C CW CN)
  wth : FnG Pr w K mg base "with_value" 1 ["setting", "position", "value"] pPut
  spr : FnG Pr w K mg base "spare_colour" 1 ["web", "colours", "setting", "place", "barred"] (pSpare CW)
  row : ClG Pr w K mg base "Row" CR 3 ["self", "settings"] (pRow CR)
theorem ok_lead {f C CW CR CB CF CN : Addr} {fd : FuncData} (F : Fun K "lead_many" "lead_many" sLead f fd) (T : Bi mg) (B : WebT K CW) (G : LeadG Pr w K mg base C CW CR CB CF CN) : FnOk Pr w K mg base (L2N.CX Pr w) 6 f fd ["web", "colours", "start", "goal"] (mkSp K (pLead CW CR CB CF CN)) := by
  refine fn_sds F scLead (fun Γ o ⟨_, _, _, _, _, h2, _⟩ => by rw [h2]; rfl) fun cdv A outer s H E hr H0 Oc Γ o ⟨n, c, Ts, a, b, h3, gd, hn, ha, hb, h4⟩ => ?_
  subst h3 h4
  unfold leadO
  by_cases c1 : 14 < n ∨ c < 1 ∨ 8 < c
  · rw [if_pos c1]
    exact ⟨.exc CB ["index"] [.int (-1)] _, sds_setX (n := 4) scLead.nd rfl (.inl rfl) (exx_make (Γe := none) (L2N.takes_of rfl rfl rfl rfl) G.mak hr (ea_cons (vv 0) (ea_cons (vv 1) ea_nil)) ⟨n, Ts, c, rfl, by rw [if_pos c1]⟩) rfl (.inr rfl), none, rfl⟩
  rw [if_neg c1]
  obtain ⟨c, rfl⟩ : ∃ k : Nat, c = (k : Int) := ⟨c.toNat, by omega⟩
  rw [Int.toNat_natCast]
  have hc : c ≤ 8 := by omega
  have hn' : n ≤ 14 := by omega
  have step1 : ∀ {out : Out}, Sds (cxOf (L2N.CX Pr w) Pr w K mg base ["web", "colours", "start", "goal", "world", "needed", "settings", "place", "wanted", "other", "now"] "lead_many" (defScope sLead) f cdv A outer s H E) (wx E) H0 Oc [.va (webD CW n Ts), .va (.int c), .va (encT a), .va (encT b), .ow (colD C CW n c Ts), .va (.int (mostV n Ts + 2)), .no, .no, .no, .no, .no] ((defBody sLead).drop 2) out →
      Sds (cxOf (L2N.CX Pr w) Pr w K mg base ["web", "colours", "start", "goal", "world", "needed", "settings", "place", "wanted", "other", "now"] "lead_many" (defScope sLead) f cdv A outer s H E) (wx E) H0 Oc [.va (webD CW n Ts), .va (.int c), .va (encT a), .va (encT b), .no, .no, .no, .no, .no, .no, .no] (defBody sLead) out := fun {out} h => by
    refine d_set 4 scLead.nd (s := .ow (colD C CW n c Ts)) (ev_make (d := colD C CW n c Ts) G.mak hr (ea_cons (vv 0) (ea_cons (vv 1) ea_nil)) ⟨n, Ts, c, rfl, by rw [if_neg c1, Int.toNat_natCast]⟩) ?_
    refine d_set 5 scLead.nd (ev_add (ev_call G.most (hr.mono (by decide)) (ea_cons (vv 0) ea_nil) ⟨_, n, Ts, rfl, rfl, by omega, rfl⟩) ev_int) ?_
    exact h
  by_cases c2 : (c : Int) < mostV n Ts + 2
  · rw [if_pos c2]
    refine ⟨.exc CF ["needed"] [.int (mostV n Ts + 2)] none, step1 (sds_ifx (q := true) (Et.bb (et_c cm_lt (vv 1) (vv 5)) (decide_eq_true c2)) (fun _ => ⟨Sds.low (sds_raise1 rfl (L2N.takes_of rfl rfl rfl rfl) G.few (hr.mono (by decide)) rfl (vv 5)), rfl⟩) fun z => nomatch z), none, rfl⟩
  rw [if_neg c2]
  have step2 : ∀ {out : Out}, Sds (cxOf (L2N.CX Pr w) Pr w K mg base ["web", "colours", "start", "goal", "world", "needed", "settings", "place", "wanted", "other", "now"] "lead_many" (defScope sLead) f cdv A outer s H E) (wx E) H0 Oc [.va (webD CW n Ts), .va (.int c), .va (encT a), .va (encT b), .ow (colD C CW n c Ts), .va (.int (mostV n Ts + 2)), .no, .no, .no, .no, .no] ((defBody sLead).drop 3) out →
      Sds (cxOf (L2N.CX Pr w) Pr w K mg base ["web", "colours", "start", "goal", "world", "needed", "settings", "place", "wanted", "other", "now"] "lead_many" (defScope sLead) f cdv A outer s H E) (wx E) H0 Oc [.va (webD CW n Ts), .va (.int c), .va (encT a), .va (encT b), .no, .no, .no, .no, .no, .no, .no] (defBody sLead) out := fun {out} h => step1 (sds_ifx (q := false) (Et.bb (et_c cm_lt (vv 1) (vv 5)) (decide_eq_false c2)) (fun z => nomatch z) fun _ => h)
  have hr4 := hr.mono (show 4 ≤ 5 by decide)
  cases c3 : okC n c Ts a with
  | false =>
    rw [if_pos rfl]
    exact ⟨.exc CN ["setting"] [encT a] _, step2 (sds_exprX (exx_call (Γe := none) (L2N.takes_of rfl rfl rfl rfl) G.chk hr4 (ea_cons (vo 4) (ea_cons (vv 2) ea_nil)) ⟨_, n, c, Ts, a, rfl, rfl, gd, ha, by rw [c3]; rfl⟩)), none, rfl⟩
  | true =>
  rw [if_neg (by decide)]
  have chk : ∀ {Γ : List Sl} {x : Str} {p q r : Pos}, True := fun {_ _ _ _ _} => trivial
  have la := (okC_iff.mp c3).1
  have step3 : ∀ {out : Out}, Sds (cxOf (L2N.CX Pr w) Pr w K mg base ["web", "colours", "start", "goal", "world", "needed", "settings", "place", "wanted", "other", "now"] "lead_many" (defScope sLead) f cdv A outer s H E) (wx E) H0 Oc [.va (webD CW n Ts), .va (.int c), .va (encT a), .va (encT b), .ow (colD C CW n c Ts), .va (.int (mostV n Ts + 2)), .no, .no, .no, .no, .no] ((defBody sLead).drop 4) out →
      Sds (cxOf (L2N.CX Pr w) Pr w K mg base ["web", "colours", "start", "goal", "world", "needed", "settings", "place", "wanted", "other", "now"] "lead_many" (defScope sLead) f cdv A outer s H E) (wx E) H0 Oc [.va (webD CW n Ts), .va (.int c), .va (encT a), .va (encT b), .no, .no, .no, .no, .no, .no, .no] (defBody sLead) out := fun {out} h => step2 (sds_expr (ev_call (s := .va .non) G.chk hr4 (ea_cons (vo 4) (ea_cons (vv 2) ea_nil)) ⟨_, n, c, Ts, a, rfl, rfl, gd, ha, by rw [c3]; rfl⟩) h)
  cases c4 : okC n c Ts b with
  | false =>
    rw [if_pos rfl]
    exact ⟨.exc CN ["setting"] [encT b] _, step3 (sds_exprX (exx_call (Γe := none) (L2N.takes_of rfl rfl rfl rfl) G.chk hr4 (ea_cons (vo 4) (ea_cons (vv 3) ea_nil)) ⟨_, n, c, Ts, b, rfl, rfl, gd, hb, by rw [c4]; rfl⟩)), none, rfl⟩
  | true =>
  rw [if_neg (by decide)]
  have lb := (okC_iff.mp c4).1
  have hd : ∀ p, p < n → (nb Ts p).length + 2 ≤ c := fun p hp => by
    have := most_ge (T := Ts) hp
    omega
  have lT := gd.len
  refine ⟨.ret (.ow (rowD CR (leadV n c Ts a b))), step3 (sds_expr (ev_call (s := .va .non) G.chk hr4 (ea_cons (vo 4) (ea_cons (vv 3) ea_nil)) ⟨_, n, c, Ts, b, rfl, rfl, gd, hb, by rw [c4]; rfl⟩) ?_), rfl⟩
  refine d_set 6 scLead.nd (ev_lst (ea_cons (vv 2) ea_nil) rfl (by show 1 ≤ _; decide)) ?_
  refine d_forP (List.range n) (fun k : Nat => .int k) (stepPl Ts c b) ([], a) (fun st => [.va (webD CW n Ts), .va (.int c), .va (encT a), .va (encT b), .ow (colD C CW n c Ts), .va (.int (mostV n Ts + 2)), .ow (.lst ((st.1 ++ [st.2]).map encT)), .no, .no, .no, .no]) (passes_of rfl) rfl (i_rng T.range (ev_fld B.cl B.noP (vb 0) rfl) (by omega)) ?_ ?_ ?_
  · exact .eq (.eq (.eq (.eq (.eq (.eq (.eq (.eq (.eq (.eq (.eq .nil))))))))))
  · intro st p pre post hx hs
    obtain ⟨hpre, hp⟩ := range_pre hx
    subst hpre
    obtain ⟨o1, o2, o3⟩ := K92.outer gd c3 c4 hd p (by omega)
    have est : st = leadSt n c Ts a b p := hs
    rw [← est] at o1 o2 o3
    have lst := (okC_iff.mp (o1.ok st.2 (by simp))).1
    have lc := List.countP_le_length (p := fun t : Nat × Nat => decide (t.1 < p)) (l := Ts)
    have last : ∀ L : List (List Int), ∀ x : List Int, L2.atI ((L ++ [x]).map encT) (-1) = some (encT x) := fun L x => by rw [List.map_append]; exact L2.atI_last _ _
    refine ⟨_, [.va (webD CW n Ts), .va (.int c), .va (encT a), .va (encT b), .ow (colD C CW n c Ts), .va (.int (mostV n Ts + 2)), .ow (.lst (((stepPl Ts c b st p).1 ++ [(stepPl Ts c b st p).2]).map encT)), .va (.int p), .va (.int (b.getD p 0)), .no, .no], t_name 7 scLead.nd, d_set 8 scLead.nd (ev_ixT (d := .int (b.getD p 0)) (vb 3) (vv 7) (atI_map (getD_at (by omega)))) ?_, ?_⟩
    · refine sds_ifn (q := !decide (st.2.getD p 0 = b.getD p 0)) _ (Et.bb (et_c cm_neI (ev_ixT (d := .int (st.2.getD p 0)) (Ev.r (ev_ixL (d := encT st.2) (vo 6) (ev_neg ev_int) (last _ _))) (vv 7) (atI_map (getD_at (by omega)))) (vv 8)) rfl) (fun q => ?_) (fun q => ?_) sds_nil
      · have ne : st.2.getD p 0 ≠ b.getD p 0 := by simpa using q
        have es : stepPl Ts c b st p = (((nb Ts p).foldl (stepO Ts c (b.getD p 0)) st).1 ++ [((nb Ts p).foldl (stepO Ts c (b.getD p 0)) st).2], ((nb Ts p).foldl (stepO Ts c (b.getD p 0)) st).2.set p (b.getD p 0)) := if_neg ne
        rw [es]
        have inn : ∀ os : List Nat, (∀ o ∈ os, o ∈ nb Ts p) → (os.foldl (stepO Ts c (b.getD p 0)) st).2.length = n ∧ (os.foldl (stepO Ts c (b.getD p 0)) st).1.length ≤ st.1.length + os.length := fun os hos => by
          obtain ⟨r1, _, _, _, r5⟩ := inner (start := a) gd c4 hd hp os st [] hos o1 o2 ne (fun _ h => nomatch h)
          exact ⟨(okC_iff.mp (r1.ok _ (by simp))).1, Nat.le_trans r5 (Nat.add_le_add_left (List.length_filter_le _ _) _)⟩
        have ln := nb_len (n := n) (T := Ts) p
        refine d_forP (nb Ts p) (fun q : Nat => .int q) (stepO Ts c (b.getD p 0)) st (fun st => [.va (webD CW n Ts), .va (.int c), .va (encT a), .va (encT b), .ow (colD C CW n c Ts), .va (.int (mostV n Ts + 2)), .ow (.lst ((st.1 ++ [st.2]).map encT)), .va (.int p), .va (.int (b.getD p 0)), .no, .no]) (passes_of rfl) rfl (ei_lst (ev_ixL (d := .lst ((nb Ts p).map fun q : Nat => .int (q : Int))) (Ev.r (ev_fld B.cl B.noN (vb 0) rfl)) (vv 7) ?_) rfl) ?_ ?_ ?_
        · have := nearV_at (T := Ts) hp
          exact L2.atI_nat (by rw [List.getElem?_map, this]; simp [List.map_map, Function.comp])
        · exact .eq (.eq (.eq (.eq (.eq (.eq (.eq (.eq (.eq (.eq (.eq .nil))))))))))
        · intro st2 q pre2 post2 hx2 hs2
          have hq : q ∈ nb Ts p := by rw [hx2]; simp
          obtain ⟨qn, _, _, _⟩ := gd.nb_lt hq
          obtain ⟨l1, l2⟩ := inn pre2 fun o ho => by rw [hx2]; simp [ho]
          rw [← hs2] at l1 l2
          have lp2 : pre2.length ≤ 60 := by
            have := congrArg List.length hx2
            rw [List.length_append] at this
            omega
          refine ⟨_, [.va (webD CW n Ts), .va (.int c), .va (encT a), .va (encT b), .ow (colD C CW n c Ts), .va (.int (mostV n Ts + 2)), .ow (.lst (((stepO Ts c (b.getD p 0) st2 q).1 ++ [(stepO Ts c (b.getD p 0) st2 q).2]).map encT)), .va (.int p), .va (.int (b.getD p 0)), .va (.int q), .va (encT st2.2)], t_name 9 scLead.nd, d_set 10 scLead.nd (ev_ixL (d := encT st2.2) (vo 6) (ev_neg ev_int) (last _ _)) ?_, ?_⟩
          · refine sds_ifn (q := decide (st2.2.getD q 0 = b.getD p 0)) _ (et_c cm_eqI (ev_ixT (d := .int (st2.2.getD q 0)) (vb 10) (vv 9) (atI_map (getD_at (by omega)))) (vv 8)) (fun z => ?_) (fun z => ?_) sds_nil
            · have z := of_decide_eq_true z
              have e2 : stepO Ts c (b.getD p 0) st2 q = (st2.1 ++ [st2.2], st2.2.set q (spareV c Ts st2.2 q (b.getD p 0))) := if_pos z
              rw [e2]
              refine d_app (ds := (st2.1 ++ [st2.2]).map encT) 6 (ev_call G.wth (hr.mono (by decide)) (ea_cons (vv 10) (ea_cons (vv 9) (ea_cons (ev_call G.spr (hr.mono (by decide)) (ea_cons (vv 0) (ea_cons (vv 1) (ea_cons (vv 10) (ea_cons (vv 9) (ea_cons (vv 8) ea_nil))))) ⟨_, n, c, Ts, st2.2, q, b.getD p 0, rfl, rfl, gd, l1, qn, by omega, by omega, (spare_ok st2.2 q _ (hd q qn)).1, rfl⟩) ea_nil))) ⟨st2.2, q, spareV c Ts st2.2 q (b.getD p 0), rfl, by omega, by omega, rfl⟩) ?_ (sds_nilq (by simp only [List.map_append]; rfl))
              rw [List.length_map, List.length_append, List.length_singleton]
              omega
            · have z := of_decide_eq_false z
              have e2 : stepO Ts c (b.getD p 0) st2 q = st2 := if_neg z
              rw [e2]
              exact sds_nil
          · exact .eq (.eq (.eq (.eq (.eq (.eq (.eq (.eq (.eq (.no (.no .nil))))))))))
        · obtain ⟨l1, l2⟩ := inn (nb Ts p) fun _ h => h
          generalize (nb Ts p).foldl (stepO Ts c (b.getD p 0)) st = r at l1 l2
          refine d_app (ds := (r.1 ++ [r.2]).map encT) 6 (ev_call G.wth (hr.mono (by decide)) (ea_cons (ev_ixL (d := encT r.2) (vo 6) (ev_neg ev_int) (last _ _)) (ea_cons (vv 7) (ea_cons (vv 8) ea_nil))) ⟨r.2, p, b.getD p 0, rfl, by omega, by omega, rfl⟩) ?_ (sds_nilq (by simp only [List.map_append]; rfl))
          rw [List.length_map, List.length_append, List.length_singleton]
          omega
      · have e : st.2.getD p 0 = b.getD p 0 := by simpa using q
        have es : stepPl Ts c b st p = st := if_pos e
        rw [es]
        exact sds_nil
    · exact .eq (.eq (.eq (.eq (.eq (.eq (.eq (.no (.no (.eq (.eq .nil))))))))))
  · obtain ⟨k1, k2, _, _, _, k6⟩ := lead_ok gd c3 c4 hd
    exact d_retO (d := rowD CR (leadV n c Ts a b)) (ev_make G.row (hr.mono (by decide)) (ea_cons (vo 6) ea_nil) ⟨n, leadV n c Ts a b, by omega, k6, fun r h => (okC_iff.mp (k2 r h)).1, rfl, rfl⟩) rfl
end
end K92

namespace K92
open PySem PySem.Spec PyProof.Rows L2 Y
/-! ### frozen_pairs -/
def tiesN (n : Nat) : List (Nat × Nat) := (List.range n).flatMap fun l : Nat => ((List.range n).filter fun h : Nat => !decide ((l : Int) = (h : Int))).map fun h => (l, n + h)
def pairS (n : Nat) : List Int := (List.range (2 * n)).map fun p : Nat => (p : Int) % (n : Int)
def pairO (n : Nat) : List Int := (pairS n).map fun v => (n : Int) - 1 - v
structure PairOk (n : Nat) : Prop where
  lt : ∀ t ∈ tiesN n, t.1 < t.2 ∧ t.2 < 2 * n
  nd : (tiesN n).Nodup
  len : (tiesN n).length ≤ 60
  srt : ((tiesN n).map toLN).Pairwise (fun a b => lexLe a b = true)
  ok : okC (2 * n) n (tiesN n) (pairS n) = true
  frz : ∀ p, p < 2 * n → ∀ k : Nat, k < n → (k : Int) = (pairS n).getD p 0 ∨ (k : Int) ∈ takenV (tiesN n) (pairS n) p
  stk : ∀ p, p < 2 * n → ∀ k : Nat, k < n → (k : Int) ≠ (pairS n).getD p 0 → okC (2 * n) n (tiesN n) ((pairS n).set p (k : Int)) = false
  mst : mostV (2 * n) (tiesN n) = (n : Int) - 1
  ok1 : okC (2 * n) (n + 1) (tiesN n) (pairS n) = true
  ok2 : okC (2 * n) (n + 1) (tiesN n) (pairO n) = true
theorem pair_ok : ∀ n : Nat, 2 ≤ n → n ≤ 7 → PairOk n := by
  intro n h2 h7
  have h : n = 2 ∨ n = 3 ∨ n = 4 ∨ n = 5 ∨ n = 6 ∨ n = 7 := by omega
  rcases h with rfl | rfl | rfl | rfl | rfl | rfl <;> exact ⟨by decide +kernel, by decide +kernel, by decide +kernel, by decide +kernel, by decide +kernel, by decide +kernel, by decide +kernel, by decide +kernel, by decide +kernel, by decide +kernel⟩
theorem PairOk.good {n : Nat} (P : PairOk n) : Good (2 * n) (tiesN n) := ⟨P.lt, P.nd, P.len⟩
theorem PairOk.sort {n : Nat} (P : PairOk n) : sortP (tiesN n) = tiesN n := by
  unfold sortP
  rw [← sortL_uniq (List.Perm.refl _) P.srt, List.map_map]
  exact List.map_id' _
def pPairs (CW CB : Addr) : Pm := fun Γ o => ∃ n : Int, Γ = [.va (.int n)] ∧ o = if n < 2 ∨ 7 < n then .exc CB ["index"] [.int (-1)] none else .ret (.va (.tup [webD CW (2 * n.toNat) (tiesN n.toNat), encT (pairS n.toNat)]))
theorem scPairs : FnScope ["n", "ties", "low", "high", "place"] ["n"] (defScope sPairs) := ⟨rfl, rfl, rfl, by decide +kernel, rfl, by decide +kernel, by decide +kernel⟩
section
variable {Pr : Program} {w : World} {K : PySem.W.Frag} {mg : Str → Option Value} {base : Heap}
theorem ok_pairs {f CW CB : Addr} {fd : FuncData} (F : Fun K "frozen_pairs" "frozen_pairs" sPairs f fd) (T : Bi mg) (N : Sup.Ex1 Pr K mg "BadWorld" "index" CB) (M : ClG Pr w K mg base "Web" CW 3 ["self", "places", "ties"] (pWeb CW)) : FnOk Pr w K mg base (L2N.CX Pr w) 6 f fd ["n"] (mkSp K (pPairs CW CB)) := by
  refine fn_sds F scPairs (fun Γ o ⟨_, h2, _⟩ => by rw [h2]; rfl) fun cdv A outer s H E hr H0 Oc Γ o ⟨n, h3, h4⟩ => ?_
  subst h3 h4
  have tst : Et (cxOf (L2N.CX Pr w) Pr w K mg base ["n", "ties", "low", "high", "place"] "frozen_pairs" (defScope sPairs) f cdv A outer s H E) H0 Oc [.va (.int n), .no, .no, .no, .no] (match (defBody sPairs).getD 0 (.Pass ⟨0, 0, 0, 0⟩) with | .If c _ _ _ => c | _ => .Name "x" ⟨0, 0, 0, 0⟩) (decide (n < 2) || decide (7 < n)) := et_w (ew_or (et_c cm_lt (vv 0) ev_int) fun _ => ew_or1 (et_c cm_gt (vv 0) ev_int))
  by_cases c : n < 2 ∨ 7 < n
  · rw [if_pos c]
    refine ⟨.exc CB ["index"] [.int (-1)] none, sds_ifx (q := true) (tst.bb (by simp only [Bool.or_eq_true, decide_eq_true_eq]; exact c)) (fun _ => ⟨Sds.low (sds_raise1 rfl (L2N.takes_of rfl rfl rfl rfl) N (hr.mono (by decide)) rfl (ev_neg ev_int)), rfl⟩) (fun z => nomatch z), none, rfl⟩
  rw [if_neg c]
  obtain ⟨n, rfl⟩ : ∃ k : Nat, n = (k : Int) := ⟨n.toNat, by omega⟩
  have P := pair_ok n (by omega) (by omega)
  rw [Int.toNat_natCast]
  have hn : n ≤ 7 := by omega
  refine ⟨.ret (.va (.tup [webD CW (2 * n) (tiesN n), encT (pairS n)])), sds_ifx (q := false) (tst.bb (by simp only [Bool.or_eq_false_iff, decide_eq_false_iff_not]; omega)) (fun z => nomatch z) (fun _ => ?_), rfl⟩
  have eT : ((List.range n).flatMap (part2 (fun _ : Nat => n) (fun (l h : Nat) => !decide ((l : Int) = (h : Int))) fun (l h : Nat) => encN (l, n + h))) = (tiesN n).map encN := by
    unfold tiesN part2
    rw [List.map_flatMap]
    congr 1
    funext l
    rw [List.map_map]
    rfl
  refine d_setLc2 (own := [("low", 2), ("high", 3)]) (vs1 := [3]) 1 (List.range n) (fun l : Nat => .int l) (fun _ => n) (fun (l h : Nat) => !decide ((l : Int) = (h : Int))) (fun (l h : Nat) => encN (l, n + h)) (fun l => [.va (.int n), .no, .va (.int l), .no, .no]) (fun l h => [.va (.int n), .no, .va (.int l), .va (.int h), .no]) rfl scPairs.nd T.range (blkOk_by (by rfl)) (i_rng T.range (vv 0) (by omega)) ?_ (fun x hx => by omega) (by decide)
    (fun x hx _ _ _ _ _ _ _ => tw_name 2 scPairs.nd) (fun l _ => ⟨rfl, .eq (.eq (.no (.eq (.eq .nil))))⟩) (fun x hx _ _ _ _ _ _ _ => vv 0) (fun x hx k hk _ _ _ _ _ _ _ => tw_name 3 scPairs.nd) (fun l _ k _ => ⟨rfl, .eq (.eq (.eq (.no (.eq .nil))))⟩)
    (fun x hx k hk _ _ _ _ _ _ _ => et_c cm_neI (vv 2) (vv 3)) (fun x hx k hk _ _ _ _ _ _ _ _ => ev_tup (ea_cons (vv 2) (ea_cons (ev_add (vv 0) (vv 3)) ea_nil)) rfl (by show 2 ≤ _; decide)) ?_
  · rw [eT, List.length_map]
    have := P.len
    omega
  · rw [eT]
    have e2 : (2 : Int) * (n : Int) = ((2 * n : Nat) : Int) := rfl
    refine d_ret (d := .tup [webD CW (2 * n) (tiesN n), encT (pairS n)]) (ev_tup (ea_cons (Ev.fz (ev_make (d := webD CW (2 * n) (tiesN n)) M (hr.mono (by decide)) (ea_cons ((ev_mul ev_int (vv 0) (.inl ⟨by omega, by omega⟩)).ii e2) (ea_cons (vo 1) ea_nil)) ⟨2 * n, tiesN n, by omega, P.good, rfl, by rw [P.sort]⟩)) (ea_cons (e_tupL T.tuple (Ev.r (s := .ow (.lst ((pairS n).map .int))) (Ev.aso (e_lc (own := [("place", 4)]) (List.range (2 * n)) (fun k : Nat => .int k) (fun k : Nat => .int ((k : Int) % (n : Int))) (fun k => [.va (.int n), .br (.lst ((tiesN n).map encN)), .no, .no, .va (.int k)]) rfl scPairs.nd (blkOk_by (by rfl)) (i_rng T.range ((ev_mul ev_int (vv 0) (.inl ⟨by omega, by omega⟩)).ii e2) (by omega)) (by rw [List.length_range]; omega)
      (fun x hx _ _ _ _ _ _ _ => tw_name 4 scPairs.nd) (fun k _ => ⟨rfl, .eq (.eq (.eq (.eq (.no .nil))))⟩) (fun k hk _ _ _ _ _ _ _ => ev_mod (vv 4) (vv 0) (by omega))) (by unfold pairS; rw [List.map_map]; rfl)) rfl)) ea_nil)) rfl (by show 2 ≤ _; decide)) rfl
end
end K92

namespace K92
open PySem PySem.Spec PyProof.Rows L2 Y
theorem _root_.Y.Ev.asb {X : Cx} {H0 : Hp} {Oc : List Addr} {Γ : List Sl} {e : Expr} {d d' : D} (h : Ev X H0 Oc Γ e (.bw d)) (hd : d = d') : Ev X H0 Oc Γ e (.bw d') := hd ▸ h
/-! ### _law_beside, _law_ties -/
def besV (F : List (Nat × Nat)) (p : Int) : Nat := (F.filter fun t => decide (p ∈ toLN t)).length
theorem bes_snoc (F : List (Nat × Nat)) (t : Nat × Nat) (p : Int) : besV (F ++ [t]) p = besV F p + if p = (t.1 : Int) ∨ p = (t.2 : Int) then 1 else 0 := by
  unfold besV
  rw [List.filter_append, List.length_append]
  congr 1
  by_cases h : p = (t.1 : Int) ∨ p = (t.2 : Int)
  · rw [if_pos h, List.filter_cons, if_pos (decide_eq_true (by unfold toLN; simp only [List.mem_cons, List.not_mem_nil, or_false]; exact h))]
    rfl
  · rw [if_neg h, List.filter_cons, if_neg (by unfold toLN; simp only [List.mem_cons, List.not_mem_nil, or_false, decide_eq_true_eq]; exact h)]
    rfl
theorem bes_nb : ∀ {F : List (Nat × Nat)}, (∀ t ∈ F, t.1 < t.2) → ∀ p : Nat, besV F (p : Int) = (nb F p).length
  | [], _, _ => rfl
  | t :: F, h, p => by
    have ih := bes_nb (F := F) (fun u hu => h u (List.mem_cons_of_mem _ hu)) p
    have lt := h t List.mem_cons_self
    unfold besV nb at ih ⊢
    rw [List.filter_cons, List.filterMap_cons]
    by_cases h1 : t.1 = p
    · rw [if_pos (decide_eq_true (by unfold toLN; simp [h1])), if_pos h1, List.length_cons, List.length_cons, ih]
    · rw [if_neg h1]
      by_cases h2 : t.2 = p
      · rw [if_pos (decide_eq_true (by unfold toLN; simp [h2])), if_pos h2, List.length_cons, List.length_cons, ih]
      · have hn : ¬ ((p : Int) ∈ toLN t) := by
          unfold toLN
          simp only [List.mem_cons, List.not_mem_nil, or_false]
          omega
        rw [if_neg (by simp only [decide_eq_true_eq]; exact hn), if_neg h2]
        exact ih
def addOk (F : List (Nat × Nat)) (cap : Int) (lo hi : Int) : Bool := (!decide (lo = hi) && !decide ([lo, hi] ∈ F.map toLN)) && (decide ((besV F lo : Int) < cap) && decide ((besV F hi : Int) < cap))
def stepT (dr : List Int) (cap : Int) (F : List (Nat × Nat)) (k : Nat) : List (Nat × Nat) :=
  if addOk F cap (min (dr.getD (2 * k) 0) (dr.getD (2 * k + 1) 0)) (max (dr.getD (2 * k) 0) (dr.getD (2 * k + 1) 0)) = true then F ++ [((min (dr.getD (2 * k) 0) (dr.getD (2 * k + 1) 0)).toNat, (max (dr.getD (2 * k) 0) (dr.getD (2 * k + 1) 0)).toNat)] else F
def tiesDr (c : Int) (n cnt : Nat) : List Int := drawV c (List.replicate (2 * cnt) (max 1 (n : Int)))
def tiesV (c : Int) (n cnt : Nat) (cap : Int) : List (Nat × Nat) := (List.range cnt).foldl (stepT (tiesDr c n cnt) cap) []
structure TiesOk (n m : Nat) (cap : Int) (F : List (Nat × Nat)) : Prop where
  lt : ∀ t ∈ F, t.1 < t.2 ∧ t.2 < n
  nd : F.Nodup
  len : F.length ≤ m
  cap : ∀ p : Int, (besV F p : Int) ≤ cap
theorem dr_at {c : Int} {n cnt i : Nat} (h : i < 2 * cnt) : 0 ≤ (tiesDr c n cnt).getD i 0 ∧ (tiesDr c n cnt).getD i 0 < max 1 (n : Int) := by
  obtain ⟨v, h1, h2, h3⟩ := drawV_get c (List.replicate (2 * cnt) (max 1 (n : Int))) i (max 1 (n : Int)) (by rw [List.getElem?_replicate, if_pos h]) (by omega)
  unfold tiesDr
  rw [List.getD_eq_getElem?_getD, h1]
  exact ⟨h2, h3⟩
theorem TiesOk.step {n m cnt k : Nat} {cap c : Int} {F : List (Nat × Nat)} (h : TiesOk n m cap F) (hk : k < cnt) : TiesOk n (m + 1) cap (stepT (tiesDr c n cnt) cap F k) := by
  have a := dr_at (c := c) (n := n) (cnt := cnt) (i := 2 * k) (by omega)
  have b := dr_at (c := c) (n := n) (cnt := cnt) (i := 2 * k + 1) (by omega)
  unfold stepT
  generalize (tiesDr c n cnt).getD (2 * k) 0 = x at a
  generalize (tiesDr c n cnt).getD (2 * k + 1) 0 = y at b
  split
  · rename_i hok
    unfold addOk at hok
    simp only [Bool.and_eq_true, Bool.not_eq_true', decide_eq_false_iff_not, decide_eq_true_eq] at hok
    obtain ⟨⟨h1, h2⟩, h3, h4⟩ := hok
    have e : toLN ((min x y).toNat, (max x y).toNat) = [min x y, max x y] := by
      unfold toLN
      simp only
      rw [Int.toNat_of_nonneg (by omega), Int.toNat_of_nonneg (by omega)]
    refine ⟨fun t ht => ?_, ?_, ?_, fun p => ?_⟩
    · rcases List.mem_append.mp ht with ht | ht
      · exact h.lt t ht
      · rw [List.mem_singleton.mp ht]
        simp only
        omega
    · rw [List.nodup_append]
      refine ⟨h.nd, by simp, fun u hu v hv => ?_⟩
      rw [List.mem_singleton.mp hv]
      rintro rfl
      exact h2 (List.mem_map.mpr ⟨_, hu, e⟩)
    · rw [List.length_append, List.length_singleton]
      have := h.len
      omega
    · rw [bes_snoc]
      simp only
      rw [Int.toNat_of_nonneg (by omega), Int.toNat_of_nonneg (by omega)]
      have hp := h.cap p
      split
      · rename_i q
        rcases q with rfl | rfl <;> omega
      · omega
  · exact ⟨h.lt, h.nd, Nat.le_succ_of_le h.len, h.cap⟩
theorem ties_inv (c : Int) (n cnt : Nat) (cap : Int) (hc : 0 ≤ cap) : ∀ k, k ≤ cnt → TiesOk n k cap ((List.range k).foldl (stepT (tiesDr c n cnt) cap) [])
  | 0, _ => ⟨(fun _ h => by cases h), List.nodup_nil, Nat.le_refl _, fun p => hc⟩
  | k + 1, h => by
    rw [List.range_succ, List.foldl_append]
    exact (ties_inv c n cnt cap hc k (by omega)).step (by omega)
theorem ties_ok (c : Int) (n cnt : Nat) (cap : Int) (hc : 0 ≤ cap) : TiesOk n cnt cap (tiesV c n cnt cap) := ties_inv c n cnt cap hc cnt (Nat.le_refl _)
section
variable {Pr : Program} {w : World} {K : PySem.W.Frag} {mg : Str → Option Value} {base : Heap}
def pBeside : Pm := fun Γ o => ∃ (s1 : Sl) (p : Int) (F : List (Nat × Nat)), Γ = [.va (.int p), s1] ∧ s1 = .br (.lst (F.map encN)) ∧ F.length ≤ 1000 ∧ o = .ret (.va (.int (besV F p)))
theorem scBeside : FnScope ["place", "ties", "tie"] ["place", "ties"] (defScope sBeside) := ⟨rfl, rfl, rfl, by decide +kernel, rfl, by decide +kernel, by decide +kernel⟩
theorem ok_beside {f : Addr} {fd : FuncData} (F : Fun K "_law_beside" "_law_beside" sBeside f fd) (T : Bi mg) : FnOk Pr w K mg base (L2N.CX Pr w) 1 f fd ["place", "ties"] (mkSp K pBeside) := by
  refine fn_sds F scBeside (fun Γ o ⟨_, _, _, h2, _⟩ => by rw [h2]; rfl) fun cdv A outer s H E hr H0 Oc Γ o ⟨s1, p, Fs, h3, h1, hl, h4⟩ => ?_
  subst h3 h4 h1
  refine ⟨.ret (.va (.int (besV Fs p))), ?_, rfl⟩
  refine d_ret (d := .int (besV Fs p)) ((e_len (d := .lst ((Fs.filter fun t => decide (p ∈ toLN t)).map encN)) T.len ?_).ii (by rw [List.length_map]; rfl)) rfl
  exact (Ev.r (s := .ow (.lst ((Fs.filter fun t => decide (p ∈ toLN t)).map encN))) (e_lcf (own := [("tie", 2)]) Fs encN (fun t => decide (p ∈ toLN t)) encN (fun t => [.va (.int p), .br (.lst (Fs.map encN)), .va (encN t)]) rfl scBeside.nd (blkOk_by (by rfl)) (ei_lst (vr 1) rfl) (by omega)
    (fun x hx _ _ _ _ _ _ _ => tw_name 2 scBeside.nd) (fun t _ => ⟨rfl, .eq (.eq (.no .nil))⟩) (fun t ht _ _ _ _ _ _ _ => et_c (c_inTI p (toLN t)) (vv 0) (vb 2)) (fun t ht _ _ _ _ _ _ _ _ => vv 2)) rfl)
def pTies : Pm := fun Γ o => ∃ (c : Int) (n cnt : Nat) (cap : Int), n ≤ 24 ∧ cnt ≤ 60 ∧ 0 ≤ cap ∧ Γ = [.va (.int c), .va (.int n), .va (.int cnt), .va (.int cap)] ∧ o = .ret (.ow (.lst ((tiesV c n cnt cap).map encN)))
theorem scTies : FnScope ["cell", "places", "count", "cap", "drawn", "ties", "k", "low", "high"] ["cell", "places", "count", "cap"] (defScope sTies) := ⟨rfl, rfl, rfl, by decide +kernel, rfl, by decide +kernel, by decide +kernel⟩
theorem ok_ties {f : Addr} {fd : FuncData} (F : Fun K "_law_ties" "_law_ties" sTies f fd) (T : Bi mg) (G : FnG Pr w K mg base "_law_draw" 1 ["cell", "bases"] pDraw) (GB : FnG Pr w K mg base "_law_beside" 1 ["place", "ties"] pBeside) : FnOk Pr w K mg base (L2N.CX Pr w) 2 f fd ["cell", "places", "count", "cap"] (mkSp K pTies) := by
  refine fn_sds F scTies (fun Γ o ⟨_, _, _, _, _, _, _, h2, _⟩ => by rw [h2]; rfl) fun cdv A outer s H E hr H0 Oc Γ o ⟨c, n, cnt, cap, hn, hcn, hcap, h3, h4⟩ => ?_
  subst h3 h4
  refine ⟨.ret (.ow (.lst ((tiesV c n cnt cap).map encN))), ?_, rfl⟩
  have e2 : ((2 : Int) * (cnt : Int)) = ((2 * cnt : Nat) : Int) := rfl
  refine d_set 4 scTies.nd (s := .ow (.lst ((tiesDr c n cnt).map .int))) (ev_call G hr (ea_cons (vv 0) (ea_cons (Ev.aso (ev_repL (ev_lst (ea_cons (e_max T.max rfl ev_int (vv 1)) ea_nil) rfl (by show 1 ≤ _; decide)).r ((ev_mul ev_int (vv 2) (.inl ⟨by omega, by omega⟩)).ii e2) ?_ ?_ ?_) ?_) ea_nil)) ⟨c, List.replicate (2 * cnt) (max 1 (n : Int)), ?_, ?_, rfl, rfl⟩) ?_
  · omega
  · omega
  · show 1 * _ ≤ _
    rw [Int.toNat_natCast]
    omega
  · rw [Int.toNat_natCast, rep_ints]
  · rw [List.length_replicate]
    omega
  · intro b hb
    rw [List.eq_of_mem_replicate hb]
    omega
  refine d_set 5 scTies.nd (ev_lst ea_nil rfl (by decide)) ?_
  have ld : (tiesDr c n cnt).length = 2 * cnt := by unfold tiesDr; rw [drawV_len, List.length_replicate]
  refine d_forP (List.range cnt) (fun k : Nat => .int k) (stepT (tiesDr c n cnt) cap) [] (fun st => [.va (.int c), .va (.int n), .va (.int cnt), .va (.int cap), .ow (.lst ((tiesDr c n cnt).map .int)), .ow (.lst (st.map encN)), .no, .no, .no]) (passes_of rfl) rfl (i_rng T.range (vv 2) (by omega)) ?_ ?_ ?_
  · exact .eq (.eq (.eq (.eq (.eq (.eq (.eq (.eq (.eq .nil))))))))
  · intro st k pre post hx hs
    obtain ⟨hpre, hk⟩ := range_pre hx
    subst hpre
    have inv := ties_inv c n cnt cap hcap k (by omega)
    have es : st = (List.range k).foldl (stepT (tiesDr c n cnt) cap) [] := hs
    rw [← es] at inv
    have ls := inv.len
    have ek : ((2 : Int) * (k : Int)) = ((2 * k : Nat) : Int) := rfl
    have ek1 : ((2 : Int) * (k : Int)) + 1 = ((2 * k + 1 : Nat) : Int) := rfl
    have b0 := dr_at (c := c) (n := n) (cnt := cnt) (i := 2 * k) (by omega)
    have b1 := dr_at (c := c) (n := n) (cnt := cnt) (i := 2 * k + 1) (by omega)
    have est : stepT (tiesDr c n cnt) cap st k = if addOk st cap (min ((tiesDr c n cnt).getD (2 * k) 0) ((tiesDr c n cnt).getD (2 * k + 1) 0)) (max ((tiesDr c n cnt).getD (2 * k) 0) ((tiesDr c n cnt).getD (2 * k + 1) 0)) = true then st ++ [((min ((tiesDr c n cnt).getD (2 * k) 0) ((tiesDr c n cnt).getD (2 * k + 1) 0)).toNat, (max ((tiesDr c n cnt).getD (2 * k) 0) ((tiesDr c n cnt).getD (2 * k + 1) 0)).toNat)] else st := rfl
    have g0 : L2.atI ((tiesDr c n cnt).map D.int) (2 * (k : Int)) = some (.int ((tiesDr c n cnt).getD (2 * k) 0)) := by rw [ek]; exact atI_map (getD_at (by omega))
    have g1 : L2.atI ((tiesDr c n cnt).map D.int) (2 * (k : Int) + 1) = some (.int ((tiesDr c n cnt).getD (2 * k + 1) 0)) := by rw [ek1]; exact atI_map (getD_at (by omega))
    generalize hx0 : (tiesDr c n cnt).getD (2 * k) 0 = x at b0 g0 est
    generalize hy0 : (tiesDr c n cnt).getD (2 * k + 1) 0 = y at b1 g1 est
    rw [est]
    refine ⟨_, [.va (.int c), .va (.int n), .va (.int cnt), .va (.int cap), .ow (.lst ((tiesDr c n cnt).map .int)), .ow (.lst ((if addOk st cap (min x y) (max x y) = true then st ++ [((min x y).toNat, (max x y).toNat)] else st).map encN)), .va (.int k), .va (.int (min x y)), .va (.int (max x y))], t_name 6 scTies.nd, d_set 7 scTies.nd (e_min T.min rfl (ev_ixL (d := .int x) (vo 4) (ev_mul ev_int (vv 6) (.inl ⟨by omega, by omega⟩)) g0) (ev_ixL (d := .int y) (vo 4) (ev_add (ev_mul ev_int (vv 6) (.inl ⟨by omega, by omega⟩)) ev_int) g1)) (d_set 8 scTies.nd (e_max T.max rfl (ev_ixL (d := .int x) (vo 4) (ev_mul ev_int (vv 6) (.inl ⟨by omega, by omega⟩)) g0) (ev_ixL (d := .int y) (vo 4) (ev_add (ev_mul ev_int (vv 6) (.inl ⟨by omega, by omega⟩)) ev_int) g1)) ?_), ?_⟩
    · have em : st.map encN = (st.map toLN).map encT := by rw [List.map_map]; rfl
      have pair : ∀ {Γ : List Sl} {a : Sl}, True := fun {_ _} => trivial
      refine sds_ifn (q := !decide (min x y = max x y) && !decide ([min x y, max x y] ∈ st.map toLN)) _ (et_w (ew_and (et_c cm_neI (vv 7) (vv 8)) fun _ => ew_and1 (Et.bb (et_c (c_nin (f := encT) (hu65 hr) eqT' 1 okT (by decide) [min x y, max x y] (st.map toLN)) (Ev.r (d := encT [min x y, max x y]) (ev_tup (ea_cons (vv 7) (ea_cons (vv 8) ea_nil)) rfl (by show 2 ≤ _; decide))) (Ev.asb (vb 5) (by rw [em]))) (congrArg not (decide_eq_decide.mpr Iff.rfl))))) (fun q => ?_) (fun q => ?_) sds_nil
      · refine sds_ifn (q := decide ((besV st (min x y) : Int) < cap) && decide ((besV st (max x y) : Int) < cap)) _ (et_w (ew_and (et_c cm_lt (ev_call GB hr (ea_cons (vv 7) (ea_cons (vo 5) ea_nil)) ⟨_, min x y, st, rfl, rfl, by omega, rfl⟩) (vv 3)) fun _ => ew_and1 (et_c cm_lt (ev_call GB hr (ea_cons (vv 8) (ea_cons (vo 5) ea_nil)) ⟨_, max x y, st, rfl, rfl, by omega, rfl⟩) (vv 3)))) (fun q2 => ?_) (fun q2 => ?_) sds_nil
        · have ha : addOk st cap (min x y) (max x y) = true := by unfold addOk; rw [q, q2]; rfl
          rw [if_pos ha]
          have e9 : encN ((min x y).toNat, (max x y).toNat) = .tup [.int (min x y), .int (max x y)] := by
            show D.tup [.int _, .int _] = _
            rw [Int.toNat_of_nonneg (by omega), Int.toNat_of_nonneg (by omega)]
          refine d_app (d := encN ((min x y).toNat, (max x y).toNat)) (ds := st.map encN) 5 (by rw [e9]; exact ev_tup (ea_cons (vv 7) (ea_cons (vv 8) ea_nil)) rfl (by show 2 ≤ _; decide)) ?_ (sds_nilq (by rw [List.map_append]; rfl))
          rw [List.length_map]
          omega
        · have ha : ¬ addOk st cap (min x y) (max x y) = true := by unfold addOk; rw [q, q2]; decide
          rw [if_neg ha]
          exact sds_nil
      · have ha : ¬ addOk st cap (min x y) (max x y) = true := by unfold addOk; rw [q]; simp
        rw [if_neg ha]
        exact sds_nil
    · exact .eq (.eq (.eq (.eq (.eq (.eq (.no (.no (.no .nil))))))))
  · exact d_retV 5 rfl
end
end K92

namespace K92
open PySem PySem.Spec PyProof.Rows L2 Y
/-! ### _law_colouring: plain -/
theorem sub_len {α : Type} [DecidableEq α] : ∀ (L M : List α), L.Nodup → (∀ x ∈ L, x ∈ M) → L.length ≤ M.length
  | [], _, _, _ => Nat.zero_le _
  | a :: L, M, nd, h => by
    have ha : a ∈ M := h a List.mem_cons_self
    rw [List.nodup_cons] at nd
    have := sub_len L (M.erase a) nd.2 fun x hx => (List.mem_erase_of_ne (by rintro rfl; exact nd.1 hx)).mpr (h x (List.mem_cons_of_mem _ hx))
    rw [List.length_erase_of_mem ha] at this
    have : 0 < M.length := List.length_pos_of_mem ha
    rw [List.length_cons]
    omega
def inF (F : List (Nat × Nat)) (o p : Nat) : Bool := decide ([(o : Int), (p : Int)] ∈ F.map toLN)
theorem inF_iff {F : List (Nat × Nat)} {o p : Nat} : inF F o p = true ↔ (o, p) ∈ F := by
  unfold inF
  rw [decide_eq_true_eq]
  constructor
  · intro h
    obtain ⟨t, ht, e⟩ := List.mem_map.mp h
    have : t = (o, p) := toLN_inj e
    exact this ▸ ht
  · intro h
    exact List.mem_map.mpr ⟨_, h, rfl⟩
def takenC (F : List (Nat × Nat)) (st : List Int) (p : Nat) : List Int := ((List.range p).filter fun o => inF F o p).map fun o => st.getD o 0
def freeC (F : List (Nat × Nat)) (cl : Nat) (st : List Int) (p : Nat) : List Int := (colsV cl).filter fun v => !decide (v ∈ takenC F st p)
def stepC (dg : List Int) (F : List (Nat × Nat)) (cl : Nat) (st : List Int) (p : Nat) : List Int := st ++ [(freeC F cl st p).getD (dg.getD p 0 % ((freeC F cl st p).length : Int)).toNat 0]
def colV (c : Int) (n : Nat) (F : List (Nat × Nat)) (cl : Nat) : List Int := (List.range n).foldl (stepC (drawV c (List.replicate n 840)) F cl) []
theorem taken_len (F : List (Nat × Nat)) (st : List Int) (p : Nat) : (takenC F st p).length ≤ (nb F p).length := by
  unfold takenC
  rw [List.length_map]
  refine sub_len _ _ (List.nodup_range.sublist List.filter_sublist) fun o ho => ?_
  obtain ⟨h1, h2⟩ := List.mem_filter.mp ho
  have h2 := inF_iff.mp h2
  have := List.mem_range.mp h1
  exact mem_nb.mpr (.inr (.inl ⟨by omega, h2⟩))
theorem free_pos {F : List (Nat × Nat)} {cl : Nat} (st : List Int) {p : Nat} (h : (nb F p).length + 2 ≤ cl) : 0 < (freeC F cl st p).length := by
  refine free_some _ ?_
  have := taken_len F st p
  omega
structure ColSt (n cl : Nat) (F : List (Nat × Nat)) (k : Nat) (st : List Int) : Prop where
  len : st.length = k
  bd : ∀ v ∈ st, 0 ≤ v ∧ v < (cl : Int)
  ne : ∀ t ∈ F, t.2 < k → st.getD t.1 0 ≠ st.getD t.2 0
theorem getD_left {L M : List Int} {i : Nat} (h : i < L.length) : (L ++ M).getD i 0 = L.getD i 0 := by
  rw [List.getD_eq_getElem?_getD, List.getElem?_append_left h, ← List.getD_eq_getElem?_getD]
theorem getD_last {L : List Int} {x : Int} : (L ++ [x]).getD L.length 0 = x := by
  rw [List.getD_eq_getElem?_getD, List.getElem?_append_right (Nat.le_refl _), Nat.sub_self]
  rfl
theorem ix_ok {L : List Int} (d : Int) (h : 0 < L.length) : (d % (L.length : Int)).toNat < L.length ∧ ((d % (L.length : Int)).toNat : Int) = d % (L.length : Int) := by
  have h1 := Int.emod_nonneg d (b := (L.length : Int)) (by omega)
  have h2 := Int.emod_lt_of_pos d (b := (L.length : Int)) (by omega)
  omega
theorem ColSt.step {n cl k : Nat} {F : List (Nat × Nat)} {st : List Int} {dg : List Int} (G : Good n F) (h : ColSt n cl F k st) (hf : (nb F k).length + 2 ≤ cl) : ColSt n cl F (k + 1) (stepC dg F cl st k) := by
  have fp := free_pos (cl := cl) st hf
  unfold stepC
  have ih := ix_ok (dg.getD k 0) fp
  have hm : (freeC F cl st k).getD (dg.getD k 0 % ((freeC F cl st k).length : Int)).toNat 0 ∈ freeC F cl st k := by
    rw [List.getD_eq_getElem?_getD, List.getElem?_eq_getElem ih.1]
    exact List.getElem_mem _
  generalize (freeC F cl st k).getD (dg.getD k 0 % ((freeC F cl st k).length : Int)).toNat 0 = v at hm
  obtain ⟨m1, m2⟩ := List.mem_filter.mp hm
  have m1 := mem_cols.mp m1
  have m2 : v ∉ takenC F st k := by simpa using m2
  refine ⟨by rw [List.length_append, h.len]; rfl, fun u hu => ?_, fun t ht hk => ?_⟩
  · rcases List.mem_append.mp hu with hu | hu
    · exact h.bd u hu
    · rw [List.mem_singleton.mp hu]; exact m1
  · have lt := G.lt t ht
    have l1 : t.1 < st.length := by rw [h.len]; omega
    rw [getD_left l1]
    by_cases e : t.2 = k
    · have e2 : (st ++ [v]).getD t.2 0 = v := by rw [e, ← h.len]; exact getD_last
      rw [e2]
      intro z
      refine m2 ?_
      unfold takenC
      refine List.mem_map.mpr ⟨t.1, List.mem_filter.mpr ⟨List.mem_range.mpr (by omega), inF_iff.mpr ?_⟩, z⟩
      rw [← e]
      exact ht
    · rw [getD_left (by rw [h.len]; omega)]
      exact h.ne t ht (by omega)
theorem col_inv {n cl : Nat} {F : List (Nat × Nat)} (dg : List Int) (G : Good n F) (hf : ∀ p, p < n → (nb F p).length + 2 ≤ cl) : ∀ k, k ≤ n → ColSt n cl F k ((List.range k).foldl (stepC dg F cl) [])
  | 0, _ => ⟨rfl, (fun _ h => by cases h), fun t ht h => absurd h (Nat.not_lt_zero _)⟩
  | k + 1, h => by
    rw [List.range_succ, List.foldl_append]
    exact (col_inv dg G hf k (by omega)).step G (hf k (by omega))
theorem col_ok {n cl : Nat} {F : List (Nat × Nat)} (c : Int) (G : Good n F) (hf : ∀ p, p < n → (nb F p).length + 2 ≤ cl) : okC n cl F (colV c n F cl) = true := by
  have h := col_inv (drawV c (List.replicate n 840)) G hf n (Nat.le_refl _)
  exact okC_iff.mpr ⟨h.len, h.bd, fun t ht => h.ne t ht (G.lt t ht).2⟩
/-! ### _law_spoilt: plain -/
def spoilV (s : List Int) (F : List (Nat × Nat)) (cl ch at_ : Int) : List Int :=
  if ch = 0 ∨ s.length = 0 then s ++ [0]
  else if ch = 1 ∧ 0 < F.length then s.set (F.getD (at_ % (F.length : Int)).toNat (0, 0)).1 (s.getD (F.getD (at_ % (F.length : Int)).toNat (0, 0)).2 0)
  else if ch = 2 then s.set (at_ % (s.length : Int)).toNat cl
  else s.set (at_ % (s.length : Int)).toNat (-1)
theorem spoil_len {n c : Nat} {F : List (Nat × Nat)} {s : List Int} (cl ch at_ : Int) (h : okC n c F s = true) : (spoilV s F cl ch at_).length ≤ n + 1 := by
  have l := (okC_iff.mp h).1
  unfold spoilV
  split
  · rw [List.length_append, l]; exact Nat.le_refl _
  · split
    · rw [List.length_set, l]; omega
    · split <;> rw [List.length_set, l] <;> omega
theorem tie_at {F : List (Nat × Nat)} (d : Int) (h : 0 < F.length) : F.getD (d % (F.length : Int)).toNat (0, 0) ∈ F ∧ F[(d % (F.length : Int)).toNat]? = some (F.getD (d % (F.length : Int)).toNat (0, 0)) ∧ ((d % (F.length : Int)).toNat : Int) = d % (F.length : Int) := by
  have h1 := Int.emod_nonneg d (b := (F.length : Int)) (by omega)
  have h2 := Int.emod_lt_of_pos d (b := (F.length : Int)) (by omega)
  have h3 : (d % (F.length : Int)).toNat < F.length := by omega
  rw [List.getD_eq_getElem?_getD, List.getElem?_eq_getElem h3]
  exact ⟨List.getElem_mem _, rfl, by omega⟩
theorem spoil_bad {n c : Nat} {F : List (Nat × Nat)} {s : List Int} (ch at_ : Int) (G : Good n F) (h : okC n c F s = true) : okC n c F (spoilV s F (c : Int) ch at_) = false := by
  obtain ⟨l, bd, ne⟩ := okC_iff.mp h
  have out : ∀ u : List Int, ¬ (u.length = n ∧ (∀ v ∈ u, 0 ≤ v ∧ v < (c : Int)) ∧ ∀ t ∈ F, u.getD t.1 0 ≠ u.getD t.2 0) → okC n c F u = false := fun u hu => by
    cases e : okC n c F u with
    | false => rfl
    | true => exact absurd (okC_iff.mp e) hu
  unfold spoilV
  split
  · refine out _ fun ⟨k, _, _⟩ => ?_
    rw [List.length_append, l] at k
    simp at k
  · rename_i c1
    have l0 : 0 < s.length := by omega
    split
    · rename_i c2
      refine out _ fun ⟨_, _, k⟩ => ?_
      obtain ⟨m, _, _⟩ := tie_at at_ c2.2
      generalize F.getD (at_ % (F.length : Int)).toNat (0, 0) = t at m k
      have lt := G.lt t m
      refine k t m ?_
      rw [getD_set _ _ _ _ (by omega), getD_set _ _ _ _ (by omega), if_pos rfl, if_neg (by omega)]
    · have ix := ix_ok at_ l0
      split
      · refine out _ fun ⟨_, k, _⟩ => ?_
        have := k (c : Int) (List.mem_iff_getElem?.mpr ⟨_, by rw [List.getElem?_set_self ix.1]⟩)
        omega
      · refine out _ fun ⟨_, k, _⟩ => ?_
        have := k (-1) (List.mem_iff_getElem?.mpr ⟨_, by rw [List.getElem?_set_self ix.1]⟩)
        omega
section
variable {Pr : Program} {w : World} {K : PySem.W.Frag} {mg : Str → Option Value} {base : Heap}
def pColouring : Pm := fun Γ o => ∃ (s2 : Sl) (c : Int) (n cl : Nat) (F : List (Nat × Nat)), Γ = [.va (.int c), .va (.int n), s2, .va (.int cl)] ∧ s2 = .br (.lst (F.map encN)) ∧ Good n F ∧ n ≤ 24 ∧ cl ≤ 100 ∧ (∀ p, p < n → (nb F p).length + 2 ≤ cl) ∧ o = .ret (.va (encT (colV c n F cl)))
theorem scColouring : FnScope ["cell", "places", "ties", "colours", "digits", "setting", "place", "taken", "other", "free", "colour"] ["cell", "places", "ties", "colours"] (defScope sColouring) := ⟨rfl, rfl, rfl, by decide +kernel, rfl, by decide +kernel, by decide +kernel⟩
theorem ok_colouring {f : Addr} {fd : FuncData} (F : Fun K "_law_colouring" "_law_colouring" sColouring f fd) (T : Bi mg) (G : FnG Pr w K mg base "_law_draw" 1 ["cell", "bases"] pDraw) : FnOk Pr w K mg base (L2N.CX Pr w) 2 f fd ["cell", "places", "ties", "colours"] (mkSp K pColouring) := by
  refine fn_sds F scColouring (fun Γ o ⟨_, _, _, _, _, h2, _⟩ => by rw [h2]; rfl) fun cdv A outer s H E hr H0 Oc Γ o ⟨s2, c, n, cl, Fs, h3, h1, gd, hn, hcl, hf, h4⟩ => ?_
  subst h3 h4 h1
  refine ⟨.ret (.va (encT (colV c n Fs cl))), ?_, rfl⟩
  have lF := gd.len
  refine d_set 4 scColouring.nd (s := .ow (.lst ((drawV c (List.replicate n 840)).map .int))) (ev_call G hr (ea_cons (vv 0) (ea_cons (Ev.aso (ev_repL (ev_lst (ea_cons ev_int ea_nil) rfl (by show 1 ≤ _; decide)).r (vv 1) ?_ ?_ ?_) ?_) ea_nil)) ⟨c, List.replicate n 840, ?_, ?_, rfl, rfl⟩) ?_
  · omega
  · omega
  · show 1 * _ ≤ _
    rw [Int.toNat_natCast]
    omega
  · rw [Int.toNat_natCast, rep_ints]
  · rw [List.length_replicate]
    omega
  · intro b hb
    rw [List.eq_of_mem_replicate hb]
    omega
  have ld : (drawV c (List.replicate n 840)).length = n := by rw [drawV_len, List.length_replicate]
  unfold colV
  generalize drawV c (List.replicate n 840) = dg at ld
  refine d_set 5 scColouring.nd (ev_lst ea_nil rfl (by decide)) ?_
  refine d_forP (List.range n) (fun k : Nat => .int k) (stepC dg Fs cl) [] (fun st => [.va (.int c), .va (.int n), .br (.lst (Fs.map encN)), .va (.int cl), .ow (.lst (dg.map .int)), .ow (.lst (st.map .int)), .no, .no, .no, .no, .no]) (passes_of rfl) rfl (i_rng T.range (vv 1) (by omega)) ?_ ?_ ?_
  · exact .eq (.eq (.eq (.eq (.eq (.eq (.eq (.eq (.eq (.eq (.eq .nil))))))))))
  · intro st k pre post hx hs
    obtain ⟨hpre, hk⟩ := range_pre hx
    subst hpre
    have inv := col_inv dg gd hf k (by omega)
    have es : st = (List.range k).foldl (stepC dg Fs cl) [] := hs
    rw [← es] at inv
    have ls := inv.len
    have fp := free_pos (cl := cl) st (hf k hk)
    have ix := ix_ok (dg.getD k 0) fp
    have em : Fs.map encN = (Fs.map toLN).map encT := by rw [List.map_map]; rfl
    refine ⟨_, [.va (.int c), .va (.int n), .br (.lst (Fs.map encN)), .va (.int cl), .ow (.lst (dg.map .int)), .ow (.lst ((stepC dg Fs cl st k).map .int)), .va (.int k), .ow (.lst ((takenC Fs st k).map .int)), .no, .ow (.lst ((freeC Fs cl st k).map .int)), .no], t_name 6 scColouring.nd, ?_, ?_⟩
    · refine d_set 7 scColouring.nd (s := .ow (.lst ((takenC Fs st k).map .int))) (Ev.aso (e_lcf (own := [("other", 8)]) (List.range k) (fun o : Nat => .int o) (fun o => inF Fs o k) (fun o : Nat => .int (st.getD o 0)) (fun o => [.va (.int c), .va (.int n), .br (.lst (Fs.map encN)), .va (.int cl), .br (.lst (dg.map .int)), .br (.lst (st.map .int)), .va (.int k), .no, .va (.int o), .no, .no]) rfl scColouring.nd (blkOk_by (by rfl)) (i_rng T.range (vv 6) (by omega)) (by rw [List.length_range]; omega)
        (fun x hx _ _ _ _ _ _ _ => tw_name 8 scColouring.nd) (fun o _ => ⟨rfl, .eq (.eq (.eq (.eq (.eq (.eq (.eq (.eq (.no (.eq (.eq .nil))))))))))⟩)
        (fun o ho _ _ _ _ _ _ _ => Et.bb (et_c (c_in (f := encT) (hu65 hr) eqT' 1 okT (by decide) [(o : Int), (k : Int)] (Fs.map toLN)) (Ev.r (d := encT [(o : Int), (k : Int)]) (ev_tup (ea_cons (vv 8) (ea_cons (vv 6) ea_nil)) rfl (by show 2 ≤ _; decide))) (Ev.asb (vb 2) (by rw [em]))) (decide_eq_decide.mpr Iff.rfl)) (fun o ho _ _ _ _ _ _ _ _ => ev_ixL (d := .int (st.getD o 0)) (vb 5) (vv 8) (atI_map (getD_at (by have := List.mem_range.mp ho; omega))))) (by unfold takenC; rw [List.map_map]; rfl)) ?_
      have ef : ((List.range cl).filter fun v : Nat => !decide ((v : Int) ∈ takenC Fs st k)).map (fun v : Nat => D.int v) = (freeC Fs cl st k).map .int := by
        unfold freeC colsV
        rw [List.filter_map, List.map_map]
        rfl
      refine d_setLcf (own := [("colour", 10)]) 9 (List.range cl) (fun v : Nat => .int v) (fun v : Nat => !decide ((v : Int) ∈ takenC Fs st k)) (fun v : Nat => .int v) (fun v => [.va (.int c), .va (.int n), .br (.lst (Fs.map encN)), .va (.int cl), .br (.lst (dg.map .int)), .br (.lst (st.map .int)), .va (.int k), .br (.lst ((takenC Fs st k).map .int)), .no, .no, .va (.int v)]) rfl scColouring.nd (blkOk_by (by rfl)) (i_rng T.range (vv 3) (by omega)) (by rw [List.length_range]; omega)
        (fun x hx _ _ _ _ _ _ _ => tw_name 10 scColouring.nd) (fun o _ => ⟨rfl, .eq (.eq (.eq (.eq (.eq (.eq (.eq (.eq (.eq (.eq (.no .nil))))))))))⟩)
        (fun v hv _ _ _ _ _ _ _ => et_c (c_ninLI (v : Int) _) (vv 10) (vb 7)) (fun v hv _ _ _ _ _ _ _ _ => vv 10) ?_
      · rw [ef]
        refine d_app (d := .int ((freeC Fs cl st k).getD (dg.getD k 0 % ((freeC Fs cl st k).length : Int)).toNat 0)) (ds := st.map .int) 5 (ev_ixL (vo 9) (ev_mod (e_int T.int (ev_ixL (d := .int (dg.getD k 0)) (vo 4) (vv 6) (atI_map (getD_at (by omega))))) ((e_len T.len (vo 9)).ii (j := ((freeC Fs cl st k).length : Int)) (by rw [List.length_map])) (by omega)) (by rw [← ix.2]; exact atI_map (getD_at ix.1))) ?_ (sds_nilq (by unfold stepC; rw [List.map_append (l₂ := [_])]; rfl))
        rw [List.length_map]
        omega
    · exact .eq (.eq (.eq (.eq (.eq (.eq (.no (.no (.eq (.no (.eq .nil))))))))))
  · exact d_ret (e_tupL T.tuple (vb 5)) rfl
end
end K92

namespace K92
open PySem PySem.Spec PyProof.Rows L2 Y
theorem i_rngZ {X : Cx} {H0 : Hp} {Oc : List Addr} {Γ : List Sl} {a tg : Expr} {p pos : Pos} {j : Int} (n : Nat) (hm : X.mg "range" = none) (ha : Ev X H0 Oc Γ a (.va (.int j))) (hn : j.toNat = n) (h1 : -1000000000 ≤ j) (h2 : j ≤ 1000000000) (hg : Gl X "range" := by rfl) (hs : starEach [a] X.env = [(false, eval a X.env)] := by rfl) (hs' : starEach [a] X.env = (false, eval a X.env) :: starEach [] X.env := by rfl) :
    Ei X H0 Oc Γ tg (.Call (.Name "range" p) [a] [] pos) ((List.range n).map fun k : Nat => D.int k) :=
  (ei_rng1 ha h1 h2 hm hg hs hs').as (by
    unfold rngD
    rw [hn]
    exact List.map_congr_left fun k _ => by rw [Int.zero_add])
section
variable {Pr : Program} {w : World} {K : PySem.W.Frag} {mg : Str → Option Value} {base : Heap}
/-! ### _law_spoilt -/
def pSpoilt : Pm := fun Γ o => ∃ (s1 : Sl) (n c : Nat) (F : List (Nat × Nat)) (s : List Int) (ch at_ : Int), Γ = [.va (encT s), s1, .va (.int c), .va (.int ch), .va (.int at_)] ∧ s1 = .br (.lst (F.map encN)) ∧ Good n F ∧ okC n c F s = true ∧ n ≤ 24 ∧ o = .ret (.va (encT (spoilV s F c ch at_)))
theorem scSpoilt : FnScope ["setting", "ties", "colours", "choice", "at", "tie"] ["setting", "ties", "colours", "choice", "at"] (defScope sSpoilt) := ⟨rfl, rfl, rfl, by decide +kernel, rfl, by decide +kernel, by decide +kernel⟩
theorem ok_spoilt {f : Addr} {fd : FuncData} (F : Fun K "_law_spoilt" "_law_spoilt" sSpoilt f fd) (T : Bi mg) (G : FnG Pr w K mg base "_law_put" 1 ["setting", "at", "value"] pPut) : FnOk Pr w K mg base (L2N.CX Pr w) 2 f fd ["setting", "ties", "colours", "choice", "at"] (mkSp K pSpoilt) := by
  refine fn_sds F scSpoilt (fun Γ o ⟨_, _, _, _, _, _, _, h2, _⟩ => by rw [h2]; rfl) fun cdv A outer s H E hr H0 Oc Γ o ⟨s1, n, c, Fs, st, ch, at_, h3, h1, gd, hk, hn, h4⟩ => ?_
  subst h3 h4 h1
  have l := (okC_iff.mp hk).1
  have lF := gd.len
  refine ⟨.ret (.va (encT (spoilV st Fs c ch at_))), ?_, rfl⟩
  refine d_ifx (et_w (ew_or (et_c cm_eqI (vv 3) ev_int) fun _ => ew_or1 (et_c cm_eqI (e_len T.len (vb 0)) ev_int))) rfl (fun q => ?_) (fun q => ?_)
  · have hq : ch = 0 ∨ st.length = 0 := by
      rw [List.length_map] at q
      simp only [Bool.or_eq_true, decide_eq_true_eq] at q
      omega
    refine d_ret (ev_catT (vv 0) (ev_tup (ea_cons ev_int ea_nil) rfl (by show 1 ≤ _; decide)) ?_) ?_
    · rw [List.length_map]
      show _ + 1 ≤ _
      omega
    · unfold spoilV
      rw [if_pos hq]
      show D.tup _ = D.tup _
      rw [List.map_append]
      rfl
  have hq : ¬ (ch = 0 ∨ st.length = 0) := by
    rw [List.length_map] at q
    simp only [Bool.or_eq_false_iff, decide_eq_false_iff_not] at q
    omega
  have l0 : 0 < st.length := by omega
  have eS : spoilV st Fs c ch at_ = if ch = 1 ∧ 0 < Fs.length then st.set (Fs.getD (at_ % (Fs.length : Int)).toNat (0, 0)).1 (st.getD (Fs.getD (at_ % (Fs.length : Int)).toNat (0, 0)).2 0)
      else if ch = 2 then st.set (at_ % (st.length : Int)).toNat (c : Int) else st.set (at_ % (st.length : Int)).toNat (-1) := if_neg hq
  rw [eS]
  have ix := ix_ok at_ l0
  refine d_ifx (et_w (ew_and (et_c cm_eqI (vv 3) ev_int) fun _ => ew_and1 (et_c cm_gt (e_len T.len (vb 1)) ev_int))) rfl (fun q2 => ?_) (fun q2 => ?_)
  · have hq2 : ch = 1 ∧ 0 < Fs.length := by
      rw [List.length_map] at q2
      simp only [Bool.and_eq_true, decide_eq_true_eq] at q2
      omega
    rw [if_pos hq2]
    obtain ⟨m1, m2, m3⟩ := tie_at at_ hq2.2
    generalize Fs.getD (at_ % (Fs.length : Int)).toNat (0, 0) = t at m1 m2
    have lt := gd.lt t m1
    refine d_set 5 scSpoilt.nd (ev_ixL (d := encN t) (vb 1) (ev_mod (e_int T.int (vv 4)) ((e_len T.len (vb 1)).ii (j := (Fs.length : Int)) (by rw [List.length_map])) (by omega)) (by rw [← m3]; exact L2.atI_nat (by rw [List.getElem?_map, m2]; rfl))) ?_
    exact d_ret (ev_call G hr (ea_cons (vv 0) (ea_cons (ev_ixT (d := .int (t.1 : Int)) (vb 5) ev_int (L2.atI_nat (j := 0) rfl)) (ea_cons (ev_ixT (d := .int (st.getD t.2 0)) (vb 0) (ev_ixT (d := .int (t.2 : Int)) (vb 5) ev_int (L2.atI_nat (j := 1) rfl)) (atI_map (getD_at (by omega)))) ea_nil))) ⟨st, t.1, st.getD t.2 0, rfl, by omega, by omega, rfl⟩) rfl
  · have hq2 : ¬ (ch = 1 ∧ 0 < Fs.length) := by
      rw [List.length_map] at q2
      intro ⟨h1, h2⟩
      simp only [Bool.and_eq_false_iff, decide_eq_false_iff_not] at q2
      omega
    rw [if_neg hq2]
    refine d_ifx (et_c cm_eqI (vv 3) ev_int) rfl (fun q3 => ?_) (fun q3 => ?_)
    · rw [if_pos (of_decide_eq_true q3)]
      exact d_ret (ev_call G hr (ea_cons (vv 0) (ea_cons ((ev_mod (e_int T.int (vv 4)) ((e_len T.len (vb 0)).ii (j := (st.length : Int)) (by rw [List.length_map])) (by omega)).ii ix.2.symm) (ea_cons (vv 2) ea_nil))) ⟨st, _, (c : Int), rfl, ix.1, by omega, rfl⟩) rfl
    · rw [if_neg (of_decide_eq_false q3)]
      exact d_ret (ev_call G hr (ea_cons (vv 0) (ea_cons ((ev_mod (e_int T.int (vv 4)) ((e_len T.len (vb 0)).ii (j := (st.length : Int)) (by rw [List.length_map])) (by omega)).ii ix.2.symm) (ea_cons (ev_neg ev_int) ea_nil))) ⟨st, _, -1, rfl, ix.1, by omega, rfl⟩) rfl
/-! ### _law_coloured -/
def pColoured : Pm := fun Γ o => ∃ (s2 : Sl) (n c : Nat) (F : List (Nat × Nat)) (s : List Int), Γ = [.va (encT s), .va (.int n), s2, .va (.int c)] ∧ s2 = .br (.lst (F.map encN)) ∧ Good n F ∧ n ≤ 24 ∧ okC n c F s = true ∧ o = .ret (.va (.bl true))
theorem scColoured : FnScope ["setting", "places", "ties", "colours", "value", "tie"] ["setting", "places", "ties", "colours"] (defScope sColoured) := ⟨rfl, rfl, rfl, by decide +kernel, rfl, by decide +kernel, by decide +kernel⟩
theorem ok_coloured {f : Addr} {fd : FuncData} (F : Fun K "_law_coloured" "_law_coloured" sColoured f fd) (T : Bi mg) : FnOk Pr w K mg base (L2N.CX Pr w) 1 f fd ["setting", "places", "ties", "colours"] (mkSp K pColoured) := by
  refine fn_sds F scColoured (fun Γ o ⟨_, _, _, _, _, h2, _⟩ => by rw [h2]; rfl) fun cdv A outer s H E hr H0 Oc Γ o ⟨s2, n, c, Fs, st, h3, h1, gd, hn, hk, h4⟩ => ?_
  subst h3 h4 h1
  obtain ⟨l, bd, ne⟩ := okC_iff.mp hk
  have lF := gd.len
  refine ⟨.ret (.va (.bl true)), ?_, rfl⟩
  refine sds_ifn (q := false) _ (Et.bb (et_w (ew_or (et_not (et_val (e_isT T.isi T.tuple (vb 0) bt_tuple rfl ki_tt))) fun _ => ew_or1 (et_c cm_neI (e_len T.len (vb 0)) (vv 1)))) (by rw [List.length_map, l]; simp)) (fun z => nomatch z) (fun _ => sds_nil) ?_
  refine d_forP st .int (fun _ _ => ()) () (fun _ => [.va (encT st), .va (.int n), .br (.lst (Fs.map encN)), .va (.int c), .no, .no]) (passes_of rfl) rfl (ei_tup (vv 0) rfl) Sub.refl ?_ ?_
  · intro _ v pre post hx hs
    have hv := bd v (by rw [hx]; simp)
    refine ⟨_, _, t_name 4 scColoured.nd, sds_ifn (q := false) _ (Et.bb (et_w (ew_or (et_not (et_val (e_isT T.isi T.int (vb 4) bt_int rfl ki_ii))) fun _ => ew_or (et_val (e_isT T.isi T.bool (vb 4) bt_bool rfl ki_ib)) fun _ => ew_or (et_c cm_lt (vv 4) ev_int) fun _ => ew_or1 (et_c cm_ge (vv 4) (vv 3)))) ?_) (fun z => nomatch z) (fun _ => sds_nil) sds_nil, .eq (.eq (.eq (.eq (.no (.eq .nil)))))⟩
    simp only [Bool.not_true, Bool.false_or, Bool.or_eq_false_iff, decide_eq_false_iff_not]
    omega
  · refine d_ret (e_allL (fun t : Nat × Nat => !decide (st.getD t.1 0 = st.getD t.2 0)) T.all rfl (e_lc (own := [("tie", 5)]) Fs encN (fun t => .bl (!decide (st.getD t.1 0 = st.getD t.2 0))) (fun t => [.va (encT st), .va (.int n), .br (.lst (Fs.map encN)), .va (.int c), .no, .va (encN t)]) rfl scColoured.nd (blkOk_by (by rfl)) (ei_lst (vr 2) rfl) (by omega)
      (fun x hx _ _ _ _ _ _ _ => tw_name 5 scColoured.nd) (fun t _ => ⟨rfl, .eq (.eq (.eq (.eq (.eq (.no .nil)))))⟩) ?_)) ?_
    · intro t ht _ _ _ _ _ _ _
      have lt := gd.lt t ht
      exact ev_c cm_neI (ev_ixT (d := .int (st.getD t.1 0)) (vb 0) (ev_ixT (d := .int (t.1 : Int)) (vb 5) ev_int (L2.atI_nat (j := 0) rfl)) (atI_map (getD_at (by omega)))) (ev_ixT (d := .int (st.getD t.2 0)) (vb 0) (ev_ixT (d := .int (t.2 : Int)) (vb 5) ev_int (L2.atI_nat (j := 1) rfl)) (atI_map (getD_at (by omega))))
    · congr 1
      rw [List.all_eq_true]
      intro t ht
      rw [decide_eq_false (ne t ht)]
      rfl
/-! ### _law_row_stands -/
structure RowS (n c : Nat) (F : List (Nat × Nat)) (a b : List Int) (rows : List (List Int)) : Prop where
  pos : 0 < rows.length
  len : rows.length ≤ n + F.length + 1
  ok : ∀ s ∈ rows, okC n c F s = true
  chn : Chn n rows
  hd : rows.head? = some a
  lst : rows.getLast? = some b
def pStands (CR : Addr) : Pm := fun Γ o => ∃ (s0 s3 : Sl) (n c : Nat) (F : List (Nat × Nat)) (a b : List Int) (rows : List (List Int)), Γ = [s0, .va (encT a), .va (encT b), s3, .va (.int c)] ∧ One s0 (rowD CR rows) ∧ stab [s0] = true ∧ s3 = .br (.lst (F.map encN)) ∧ Good n F ∧ n ≤ 24 ∧ RowS n c F a b rows ∧ o = .ret (.va (.bl true))
theorem scStands : FnScope ["row", "start", "goal", "ties", "colours", "settings", "setting", "k", "apart", "at"] ["row", "start", "goal", "ties", "colours"] (defScope sRow) := ⟨rfl, rfl, rfl, by decide +kernel, rfl, by decide +kernel, by decide +kernel⟩
theorem ok_stands {f CR : Addr} {fd : FuncData} (F : Fun K "_law_row_stands" "_law_row_stands" sRow f fd) (T : Bi mg) (R : RowT K CR) (gR : mg "Row" = some (.ref CR)) (isc : IsC K CR) (G : FnG Pr w K mg base "_law_coloured" 1 ["setting", "places", "ties", "colours"] pColoured) : FnOk Pr w K mg base (L2N.CX Pr w) 2 f fd ["row", "start", "goal", "ties", "colours"] (mkSp K (pStands CR)) := by
  refine fn_sds F scStands (fun Γ o ⟨_, _, _, _, _, _, _, _, h2, _⟩ => by rw [h2]; rfl) fun cdv A outer s H E hr H0 Oc Γ o ⟨s0, s3, n, c, Fs, a, b, rows, h3, h1, hst, h2, gd, hn, S, h4⟩ => ?_
  subst h3 h4 h2
  have q0 : s0.arg.dat = some (rowD CR rows) := by rw [← h1]; cases s0 <;> rfl
  have lF := gd.len
  have lR := S.len
  have pR := S.pos
  have a0 : rows[0]? = some a := by rw [← List.head?_eq_getElem?]; exact S.hd
  have la : a.length = n := (okC_iff.mp (S.ok a (List.mem_of_getElem? a0))).1
  obtain ⟨ini, hini⟩ : ∃ ini, rows = ini ++ [b] := by
    have := S.lst
    rw [List.getLast?_eq_some_iff] at this
    exact this
  have lo : a.length = b.length := by rw [la, (okC_iff.mp (S.ok b (by rw [hini]; simp))).1]
  refine ⟨.ret (.va (.bl true)), ?_, rfl⟩
  refine sds_ifn (q := false) _ (Et.bb (et_w (ew_or (et_not (et_val (e_isi T.isi (vb 0 rfl h1) (e_cls gR) (.own CR) rfl kit_self (fun D z => by cases z; exact isc)))) fun _ => ew_or1 (et_not (et_val (e_isT T.isi T.list (Ev.r (ev_fld R.cl R.noS (vb 0 rfl h1) rfl)) bt_list rfl ki_ll))))) (by simp)) (fun z => nomatch z) (fun _ => sds_nil) ?_
  refine d_set 5 scStands.nd (ev_fld R.cl R.noS (vb 0 rfl h1) rfl) ?_
  refine sds_ifn (q := false) _ (Et.bb (et_w (ew_or (et_c cm_lt (e_len T.len (vb 5)) ev_int) fun _ => ew_or1 (et_c cm_gt (e_len T.len (vb 5)) (ev_add (ev_add (e_len T.len (vb 1)) (e_len T.len (vb 3))) ev_int)))) (by simp only [List.length_map, Bool.or_eq_false_iff, decide_eq_false_iff_not]; omega)) (fun z => nomatch z) (fun _ => sds_nil) ?_
  refine sds_ifn (q := false) _ (Et.bb (et_not (et_val (e_allL (fun _ : List Int => true) T.all rfl (e_lc (own := [("setting", 6)]) rows encT (fun _ => .bl true) (fun r => [s0.arg, .va (encT a), .va (encT b), .br (.lst (Fs.map encN)), .va (.int c), .va (.lst (rows.map encT)), .va (encT r), .no, .no, .no]) rfl scStands.nd (blkOk_by (by rfl)) (ei_lst (vv 5) rfl) (by omega)
      (fun x hx _ _ _ _ _ _ _ => tw_name 6 scStands.nd) (fun r _ => ⟨stab_arg (G := [s0, .va (encT a), .va (encT b), .br (.lst (Fs.map encN)), .va (.int c), .va (.lst (rows.map encT)), .va (encT r), .no, .no, .no]), .eq (.eq (.eq (.eq (.eq (.eq (.no (.eq (.eq (.eq .nil)))))))))⟩)
      (fun r hr' _ _ _ _ _ _ _ => ev_call G hr (ea_cons (vv 6) (ea_cons ((e_len T.len (vb 1)).ii (j := (n : Int)) (by rw [List.length_map, la])) (ea_cons (vr 3) (ea_cons (vv 4) ea_nil)))) ⟨_, n, c, Fs, r, rfl, rfl, gd, hn, S.ok r hr', rfl⟩))))) (by simp)) (fun z => nomatch z) (fun _ => sds_nil) ?_
  refine d_forP (List.range (rows.length - 1)) (fun k : Nat => .int k) (fun _ _ => ()) () (fun _ => [s0, .va (encT a), .va (encT b), .br (.lst (Fs.map encN)), .va (.int c), .va (.lst (rows.map encT)), .no, .no, .no, .no]) (passes_of rfl) rfl (i_rngZ (rows.length - 1) T.range (ev_sub (e_len T.len (vb 5)) ev_int) (by rw [List.length_map]; omega) (by rw [List.length_map]; omega) (by rw [List.length_map]; omega)) Sub.refl ?_ ?_
  · intro _ k pre post hx hs
    have hk : k < rows.length - 1 := rng_lt hx
    have g0 : rows[k]? = some (rows.getD k []) := by rw [List.getD_eq_getElem?_getD, List.getElem?_eq_getElem (by omega)]; rfl
    have g1 : rows[k + 1]? = some (rows.getD (k + 1) []) := by rw [List.getD_eq_getElem?_getD, List.getElem?_eq_getElem (by omega)]; rfl
    have ap := S.chn k _ _ g0 g1
    have l0 := (okC_iff.mp (S.ok _ (List.mem_of_getElem? g0))).1
    have l1 := (okC_iff.mp (S.ok _ (List.mem_of_getElem? g1))).1
    generalize rows.getD k [] = x at g0 ap l0
    generalize rows.getD (k + 1) [] = y at g1 ap l1
    have v0 : L2.atI (rows.map encT) (k : Int) = some (encT x) := L2.atI_nat (by rw [List.getElem?_map, g0]; rfl)
    have v1 : L2.atI (rows.map encT) ((k : Int) + 1) = some (encT y) := by
      rw [show ((k : Int) + 1) = ((k + 1 : Nat) : Int) from rfl]
      exact L2.atI_nat (by rw [List.getElem?_map, g1]; rfl)
    refine ⟨_, [s0, .va (encT a), .va (encT b), .br (.lst (Fs.map encN)), .va (.int c), .va (.lst (rows.map encT)), .no, .va (.int k), .ow (.lst ((apart n x y).map fun i : Nat => .int (i : Int))), .no], t_name 7 scStands.nd, ?_, ?_⟩
    · refine d_setLcf (own := [("at", 9)]) 8 (List.range n) (fun i : Nat => .int i) (fun i => !decide (x.getD i 0 = y.getD i 0)) (fun i : Nat => .int i) (fun i => [s0.arg, .va (encT a), .va (encT b), .br (.lst (Fs.map encN)), .va (.int c), .va (.lst (rows.map encT)), .no, .va (.int k), .no, .va (.int i)]) rfl scStands.nd (blkOk_by (by rfl)) (i_rng T.range ((e_len T.len (vb 1)).ii (j := (n : Int)) (by rw [List.length_map, la])) (by omega)) (by rw [List.length_range]; omega)
        (fun x hx _ _ _ _ _ _ _ => tw_name 9 scStands.nd) (fun i _ => ⟨stab_arg (G := [s0, .va (encT a), .va (encT b), .br (.lst (Fs.map encN)), .va (.int c), .va (.lst (rows.map encT)), .no, .va (.int k), .no, .va (.int i)]), .eq (.eq (.eq (.eq (.eq (.eq (.eq (.eq (.eq (.no .nil)))))))))⟩)
        (fun i hi _ _ _ _ _ _ _ => et_c cm_neI (ev_ixT (d := .int (x.getD i 0)) (Ev.r (ev_ixL (d := encT x) (vb 5) (vv 7) v0)) (vv 9) (atI_map (getD_at (by have := List.mem_range.mp hi; omega)))) (ev_ixT (d := .int (y.getD i 0)) (Ev.r (ev_ixL (d := encT y) (vb 5) (ev_add (vv 7) ev_int) v1)) (vv 9) (atI_map (getD_at (by have := List.mem_range.mp hi; omega))))) (fun i hi _ _ _ _ _ _ _ _ => vv 9) ?_
      refine sds_ifn (q := false) _ (Et.bb (et_c cm_neI (e_len T.len (vb 8)) ev_int) ?_) (fun z => nomatch z) (fun _ => sds_nil) sds_nil
      rw [List.length_map]
      show (!decide (((apart n x y).length : Int) = 1)) = false
      rw [ap]
      rfl
    · exact .eq (.eq (.eq (.eq (.eq (.eq (.eq (.no (.no (.eq .nil)))))))))
  · refine d_ret (ev_and (ev_c (c_eq (f := encT) (hu64 hr) eqT' 1 okT (by decide) a a) (Ev.r (ev_ixL (d := encT a) (vb 5) ev_int (L2.atI_nat (j := 0) (by rw [List.getElem?_map, a0]; rfl)))) (vb 1)) fun _ => ev_one (ev_c (c_eq (f := encT) (hu64 hr) eqT' 1 okT (by decide) b b) (Ev.r (ev_ixL (d := encT b) (vb 5) (ev_neg ev_int) (by rw [hini, List.map_append]; exact L2.atI_last _ _))) (vb 2))) (by simp)
end
end K92

namespace K92
open PySem PySem.Spec PyProof.Rows L2 Y
def hSuites (s : Stmt) : List (List Stmt) := match s with
  | .Try _ hs _ _ _ => hs.map fun h => match h with | .ExceptHandler _ _ b _ => b
  | _ => []
section
variable {Pr : Program} {w : World} {K : PySem.W.Frag} {mg : Str → Option Value} {base : Heap}
/-! ### _law_refused -/
structure ErrO (K : PySem.W.Frag) (mg : Str → Option Value) (CS CB CF CN : Addr) : Prop where
  gS : mg "StepError" = some (.ref CS)
  gB : mg "BadWorld" = some (.ref CB)
  gF : mg "TooFew" = some (.ref CF)
  gN : mg "NotAnAnswer" = some (.ref CN)
  vE : mg "ValueError" = none
  xB : XcE K CB
  xF : XcE K CF
  xN : XcE K CN
  iB : PySem.W.findIn K (.ref CB) "index" = some none
  iF : PySem.W.findIn K (.ref CF) "needed" = some none
  iN : PySem.W.findIn K (.ref CN) "setting" = some none
  bF : PySem.W.kitOne K (.ref CB) (.ref CF) = some false
  bN : PySem.W.kitOne K (.ref CB) (.ref CN) = some false
  bS : PySem.W.kitOne K (.ref CB) (.ref CS) = some true
  bV : PySem.W.kitOne K (.ref CB) (.type "ValueError") = some true
  fN : PySem.W.kitOne K (.ref CF) (.ref CN) = some false
  fS : PySem.W.kitOne K (.ref CF) (.ref CS) = some true
  fV : PySem.W.kitOne K (.ref CF) (.type "ValueError") = some true
  nS : PySem.W.kitOne K (.ref CN) (.ref CS) = some true
  nV : PySem.W.kitOne K (.ref CN) (.type "ValueError") = some true
  eBB : PySem.W.exmOne K (.ref CB) (.ref CB) = some true
  eFB : PySem.W.exmOne K (.ref CF) (.ref CB) = some false
  eFF : PySem.W.exmOne K (.ref CF) (.ref CF) = some true
  eNB : PySem.W.exmOne K (.ref CN) (.ref CB) = some false
  eNF : PySem.W.exmOne K (.ref CN) (.ref CF) = some false
  eNN : PySem.W.exmOne K (.ref CN) (.ref CN) = some true
def pRefused (CW : Addr) : Pm := fun Γ o => ∃ (n : Nat) (c : Int) (T : List (Nat × Nat)) (a b : List Int) (wd : Str) (due : D), Γ = [.va (webD CW n T), .va (.int c), .va (encT a), .va (encT b), .va (.str wd), .va due] ∧ Good n T ∧ n ≤ 24 ∧ a.length ≤ 1000 ∧ b.length ≤ 1000 ∧ o = .ret (.va (.bl true)) ∧
  ((wd = "world" ∧ due = .int (-1) ∧ (14 < n ∨ c < 1 ∨ 8 < c)) ∨
   (wd = "few" ∧ due = .int (mostV n T + 2) ∧ ¬ (14 < n ∨ c < 1 ∨ 8 < c) ∧ c < mostV n T + 2) ∨
   (wd = "setting" ∧ ∃ x : List Int, due = encT x ∧ x.length ≤ 1000 ∧ ¬ (14 < n ∨ c < 1 ∨ 8 < c) ∧ ¬ c < mostV n T + 2 ∧ ((okC n c.toNat T a = false ∧ x = a) ∨ (okC n c.toNat T a = true ∧ okC n c.toNat T b = false ∧ x = b))))
theorem scRefused : FnScope ["web", "colours", "start", "goal", "word", "due", "e"] ["web", "colours", "start", "goal", "word", "due"] (defScope sRefused) := ⟨rfl, rfl, rfl, by decide +kernel, rfl, by decide +kernel, by decide +kernel⟩
theorem ok_refused {f CS CW CR CB CF CN : Addr} {fd : FuncData} (F : Fun K "_law_refused" "_law_refused" sRefused f fd) (T : Bi mg) (Er : ErrO K mg CS CB CF CN) (G : FnG Pr w K mg base "lead_many" 6 ["web", "colours", "start", "goal"] (pLead CW CR CB CF CN)) (GI : FnGH Pr w K mg base "_law_int" 1 ["actual", "expected"] pInt) (GT : FnGH Pr w K mg base "_law_tuple" 2 ["actual", "expected"] pTuple) : FnOk Pr w K mg base (L2N.CX Pr w) 7 f fd ["web", "colours", "start", "goal", "word", "due"] (mkSp K (pRefused CW)) := by
  refine fn_sds F scRefused (fun Γ o ⟨_, _, _, _, _, _, _, h2, _⟩ => by rw [h2]; rfl) fun cdv A outer s H E hr H0 Oc Γ o ⟨n, c, Ts, a, b, wd, due, h3, gd, hn, ha, hb, h4, hcase⟩ => ?_
  subst h3 h4
  refine ⟨.ret (.va (.bl true)), ?_, rfl⟩
  have body : ∀ {C : Addr} {ns : List Str} {ds : List D}, leadO CR CB CF CN n c Ts a b = .exc C ns ds none → ∀ (W' : WX) (pn : List (Addr × Obj)) (xe : Value → Shared → Prop), L2N.Takes ((cxOf (L2N.CX Pr w) Pr w K mg base ["web", "colours", "start", "goal", "word", "due", "e"] "_law_refused" (defScope sRefused) f cdv A outer s H E).tr pn xe) W' → PassesOwn (model Pr w) (cxOf (L2N.CX Pr w) Pr w K mg base ["web", "colours", "start", "goal", "word", "due", "e"] "_law_refused" (defScope sRefused) f cdv A outer s H E).A (cxOf (L2N.CX Pr w) Pr w K mg base ["web", "colours", "start", "goal", "word", "due", "e"] "_law_refused" (defScope sRefused) f cdv A outer s H E).env xe →
      Sds ((cxOf (L2N.CX Pr w) Pr w K mg base ["web", "colours", "start", "goal", "word", "due", "e"] "_law_refused" (defScope sRefused) f cdv A outer s H E).tr pn xe) W' H0 Oc [.va (webD CW n Ts), .va (.int c), .va (encT a), .va (encT b), .va (.str wd), .va due, .no] (match (defBody sRefused).getD 0 (.Pass ⟨0, 0, 0, 0⟩) with | .Try b _ _ _ _ => b | _ => []) (.exc C ns ds (some [.va (webD CW n Ts), .va (.int c), .va (encT a), .va (encT b), .va (.str wd), .va due, .no])) := fun {C ns ds} he W' pn xe tk po => by
    exact sds_exprX (exx_call (Γe := none) tk G hr (ea_cons (vv 0) (ea_cons (vv 1) (ea_cons (vv 2) (ea_cons (vv 3) ea_nil)))) ⟨n, c, Ts, a, b, rfl, gd, hn, ha, hb, he.symm⟩)
  have cd : ∀ {C : Addr} {ns : List Str} {ds : List D}, leadO CR CB CF CN n c Ts a b = .exc C ns ds none → TakeOk (cxOf (L2N.CX Pr w) Pr w K mg base ["web", "colours", "start", "goal", "word", "due", "e"] "_law_refused" (defScope sRefused) f cdv A outer s H E) (wx E) H0 Oc 6 ((defBody sRefused).drop 1) (.ret (.va (.bl true))) C ns ds [.va (webD CW n Ts), .va (.int c), .va (encT a), .va (encT b), .va (.str wd), .va due, .no]
      [(.ref CB, (hSuites ((defBody sRefused).getD 0 (.Pass ⟨0, 0, 0, 0⟩))).getD 0 []), (.ref CF, (hSuites ((defBody sRefused).getD 0 (.Pass ⟨0, 0, 0, 0⟩))).getD 1 []), (.ref CN, (hSuites ((defBody sRefused).getD 0 (.Pass ⟨0, 0, 0, 0⟩))).getD 2 [])] →
      Sds (cxOf (L2N.CX Pr w) Pr w K mg base ["web", "colours", "start", "goal", "word", "due", "e"] "_law_refused" (defScope sRefused) f cdv A outer s H E) (wx E) H0 Oc [.va (webD CW n Ts), .va (.int c), .va (encT a), .va (encT b), .va (.str wd), .va due, .no] (defBody sRefused) (.ret (.va (.bl true))) := fun {C ns ds} he ht => by
    exact sds_each (n := 6) (ob := .exc C ns ds (some [.va (webD CW n Ts), .va (.int c), .va (encT a), .va (encT b), .va (.str wd), .va due, .no])) rfl rfl scRefused.nd rfl rfl (L2N.takes_of rfl rfl rfl rfl) (.cons ⟨rfl, by decide, .inl Er.gB⟩ (.cons ⟨rfl, by decide, .inl Er.gF⟩ (.cons ⟨rfl, by decide, .inl Er.gN⟩ .nil))) (body he) ht
  rcases hcase with ⟨rfl, rfl, h1⟩ | ⟨rfl, rfl, h1, h2⟩ | ⟨rfl, x, rfl, hx, h1, h2, h3⟩
  · have he : leadO CR CB CF CN n c Ts a b = .exc CB ["index"] [.int (-1)] none := if_pos h1
    refine cd he (.inl ⟨Er.eBB, fun ad oe d pn hz hf => ⟨.ret (.va (.bl true)), ?_, rfl⟩⟩)
    refine d_ifx (et_w (ew_or (et_val (e_isE T.isi Er.xB hz hf (vv 6) (e_cls Er.gF) (.own CF) Er.bF)) fun _ => ew_or (et_val (e_isE T.isi Er.xB hz hf (vv 6) (e_cls Er.gN) (.own CN) Er.bN)) fun _ => ew_or1 (et_not (et_val (e_isE T.isi Er.xB hz hf (vv 6) (e_cls Er.gS) (.own CS) Er.bS))))) rfl (by intro c; simp at c) fun _ => ?_
    exact d_ret (ev_and (ev_c cm_eqT (vv 4) ev_str) fun _ => ev_and (e_isE T.isi Er.xB hz hf (vv 6) (e_ty Er.vE bt_ve) (.ty "ValueError") Er.bV) fun _ => ev_one (ev_callHot (hot_suite hz hf) GI ⟨(hr.mono (show 1 ≤ 6 by decide)).dp, (hr.mono (show 1 ≤ 6 by decide)).un⟩ (ea_cons (ev_xf Er.xB.xf Er.iB hz hf (vv 6) rfl) (ea_cons (vv 5) ea_nil)) ⟨-1, -1, rfl, rfl⟩)) (by simp)
  · have he : leadO CR CB CF CN n c Ts a b = .exc CF ["needed"] [.int (mostV n Ts + 2)] none := by unfold leadO; rw [if_neg h1, if_pos h2]
    refine cd he (.inr ⟨Er.eFB, .inl ⟨Er.eFF, fun ad oe d pn hz hf => ⟨.ret (.va (.bl true)), ?_, rfl⟩⟩⟩)
    refine d_ifx (et_w (ew_or (et_val (e_isE T.isi Er.xF hz hf (vv 6) (e_cls Er.gN) (.own CN) Er.fN)) fun _ => ew_or1 (et_not (et_val (e_isE T.isi Er.xF hz hf (vv 6) (e_cls Er.gS) (.own CS) Er.fS))))) rfl (by intro c; simp at c) fun _ => ?_
    exact d_ret (ev_and (ev_c cm_eqT (vv 4) ev_str) fun _ => ev_and (e_isE T.isi Er.xF hz hf (vv 6) (e_ty Er.vE bt_ve) (.ty "ValueError") Er.fV) fun _ => ev_one (ev_callHot (hot_suite hz hf) GI ⟨(hr.mono (show 1 ≤ 6 by decide)).dp, (hr.mono (show 1 ≤ 6 by decide)).un⟩ (ea_cons (ev_xf Er.xF.xf Er.iF hz hf (vv 6) rfl) (ea_cons (vv 5) ea_nil)) ⟨mostV n Ts + 2, mostV n Ts + 2, rfl, rfl⟩)) (by simp)
  · have he : leadO CR CB CF CN n c Ts a b = .exc CN ["setting"] [encT x] none := by
      unfold leadO
      rw [if_neg h1, if_neg h2]
      rcases h3 with ⟨h3, rfl⟩ | ⟨h3, h4, rfl⟩
      · rw [if_pos h3]
      · rw [if_neg (by rw [h3]; decide), if_pos h4]
    refine cd he (.inr ⟨Er.eNB, .inr ⟨Er.eNF, .inl ⟨Er.eNN, fun ad oe d pn hz hf => ⟨.ret (.va (.bl true)), ?_, rfl⟩⟩⟩⟩)
    refine d_ifx (et_w (ew_or (et_not (et_val (e_isE T.isi Er.xN hz hf (vv 6) (e_cls Er.gS) (.own CS) Er.nS))) fun _ => ew_or1 (et_not (et_val (e_isE T.isi Er.xN hz hf (vv 6) (e_ty Er.vE bt_ve) (.ty "ValueError") Er.nV))))) rfl (by intro c; simp at c) fun _ => ?_
    exact d_ret (ev_and (ev_c cm_eqT (vv 4) ev_str) fun _ => ev_one (ev_callHot (hot_suite hz hf) GT ⟨(hr.mono (show 2 ≤ 6 by decide)).dp, (hr.mono (show 2 ≤ 6 by decide)).un⟩ (ea_cons (ev_xf Er.xN.xf Er.iN hz hf (vv 6) rfl) (ea_cons (vv 5) ea_nil)) ⟨x, rfl, by omega, rfl⟩)) (by simp)
/-! ### _law_pairs_refused -/
def pPairsRef : Pm := fun Γ o => ∃ n : Int, Γ = [.va (.int n)] ∧ (n < 2 ∨ 7 < n) ∧ o = .ret (.va (.bl true))
theorem scPairsRef : FnScope ["n", "e"] ["n"] (defScope sPairsRef) := ⟨rfl, rfl, rfl, by decide +kernel, rfl, by decide +kernel, by decide +kernel⟩
theorem ok_pairsRef {f CS CW CB CF CN : Addr} {fd : FuncData} (F : Fun K "_law_pairs_refused" "_law_pairs_refused" sPairsRef f fd) (T : Bi mg) (Er : ErrO K mg CS CB CF CN) (G : FnG Pr w K mg base "frozen_pairs" 6 ["n"] (pPairs CW CB)) (GI : FnGH Pr w K mg base "_law_int" 1 ["actual", "expected"] pInt) : FnOk Pr w K mg base (L2N.CX Pr w) 7 f fd ["n"] (mkSp K pPairsRef) := by
  refine fn_sds F scPairsRef (fun Γ o ⟨_, h2, _⟩ => by rw [h2]; rfl) fun cdv A outer s H E hr H0 Oc Γ o ⟨n, h3, h1, h4⟩ => ?_
  subst h3 h4
  refine ⟨.ret (.va (.bl true)), ?_, rfl⟩
  refine sds_try (n := 1) (ob := .exc CB ["index"] [.int (-1)] (some [.va (.int n), .no])) rfl rfl scPairsRef.nd rfl rfl ⟨rfl, by decide, .inl Er.gB⟩ (L2N.takes_of rfl rfl rfl rfl) (fun W' pn xe tk po => sds_exprX (exx_call (Γe := none) tk G hr (ea_cons (vv 0) ea_nil) ⟨n, rfl, (if_pos h1).symm⟩)) (.inl ⟨Er.eBB, fun ad oe d pn hz hf => ⟨.ret (.va (.bl true)), ?_, rfl⟩⟩)
  exact d_ret (ev_and (e_isE T.isi Er.xB hz hf (vv 1) (e_cls Er.gS) (.own CS) Er.bS) fun _ => ev_and (e_isE T.isi Er.xB hz hf (vv 1) (e_ty Er.vE bt_ve) (.ty "ValueError") Er.bV) fun _ => ev_one (ev_callHot (hot_suite hz hf) GI ⟨(hr.mono (show 1 ≤ 6 by decide)).dp, (hr.mono (show 1 ≤ 6 by decide)).un⟩ (ea_cons (ev_xf Er.xB.xf Er.iB hz hf (vv 1) rfl) (ea_cons (ev_neg ev_int) ea_nil)) ⟨-1, -1, rfl, rfl⟩)) (by simp)
end
end K92

namespace K92
open PySem PySem.Spec PyProof.Rows L2 Y
theorem foldl_app {α β : Type} (g : α → List β) : ∀ (xs : List α) (acc : List β), xs.foldl (fun st b => st ++ g b) acc = acc ++ xs.flatMap g
  | [], acc => by simp
  | x :: xs, acc => by
    rw [List.foldl_cons, foldl_app g xs, List.flatMap_cons, List.append_assoc]
def inP (n l : Nat) (st : List (Nat × Nat)) (h : Nat) : List (Nat × Nat) := if (l : Int) = (h : Int) then st else st ++ [(l, n + h)]
theorem foldl_inP (n l : Nat) : ∀ (xs : List Nat) (acc : List (Nat × Nat)), xs.foldl (inP n l) acc = acc ++ (xs.filter fun h : Nat => !decide ((l : Int) = (h : Int))).map fun h => (l, n + h)
  | [], acc => by simp
  | x :: xs, acc => by
    rw [List.foldl_cons, foldl_inP n l xs, List.filter_cons]
    unfold inP
    by_cases e : (l : Int) = (x : Int)
    · rw [if_pos e, if_neg (by simp [e])]
    · rw [if_neg e, if_pos (by simp [e]), List.map_cons, List.append_assoc]
      rfl
theorem foldl_inP_len (n l : Nat) (xs : List Nat) (acc : List (Nat × Nat)) : (xs.foldl (inP n l) acc).length ≤ acc.length + xs.length := by
  rw [foldl_inP, List.length_append, List.length_map]
  exact Nat.add_le_add_left (List.length_filter_le _ _) _
def outP (n : Nat) (st : List (Nat × Nat)) (l : Nat) : List (Nat × Nat) := (List.range n).foldl (inP n l) st
theorem foldl_outP (n : Nat) : (List.range n).foldl (outP n) [] = tiesN n := by
  have : outP n = fun (st : List (Nat × Nat)) (l : Nat) => st ++ ((List.range n).filter fun h : Nat => !decide ((l : Int) = (h : Int))).map fun h => (l, n + h) := by
    funext st l
    exact foldl_inP n l _ st
  rw [this, foldl_app]
  rfl
theorem foldl_outP_len (n : Nat) : ∀ (xs : List Nat) (acc : List (Nat × Nat)), (xs.foldl (outP n) acc).length ≤ acc.length + xs.length * n
  | [], acc => by simp
  | x :: xs, acc => by
    rw [List.foldl_cons]
    have h1 := foldl_outP_len n xs (outP n acc x)
    have h2 := foldl_inP_len n x (List.range n) acc
    rw [List.length_range] at h2
    have h3 : (outP n acc x).length ≤ acc.length + n := h2
    rw [List.length_cons, Nat.add_mul, Nat.one_mul]
    omega
theorem lead_rows {n c : Nat} {T F : List (Nat × Nat)} {a b : List Int} (p : T.Perm F) (G : Good n T) (h1 : okC n c T a = true) (h2 : okC n c T b = true) (hd : ∀ p, p < n → (nb T p).length + 2 ≤ c) : RowS n c F a b (leadV n c T a b) := by
  obtain ⟨k1, k2, k3, k4, k5, k6⟩ := lead_ok G h1 h2 hd
  exact ⟨k6, by rw [← p.length_eq]; exact k1, fun s hs => by rw [← okC_perm p]; exact k2 s hs, k3, k4, k5⟩
section
variable {Pr : Program} {w : World} {K : PySem.W.Frag} {mg : Str → Option Value} {base : Heap}
structure StandG (Pr : Program) (w : World) (K : PySem.W.Frag) (mg : Str → Option Value) (base : Heap) (C CW CR CB CF CN : Addr) : Prop where
  prs : FnG Pr w K mg base "frozen_pairs" 6 ["n"] (pPairs CW CB)
  gW : mg "Web" = some (.ref CW)
  isW : IsC K CW
  int : FnG Pr w K mg base "_law_int" 1 ["actual", "expected"] pInt
  tup : FnG Pr w K mg base "_law_tuple" 2 ["actual", "expected"] pTuple
  mak : ClG Pr w K mg base "Colours" C 4 ["self", "web", "colours"] (pCol C CW CB)
  ans : MtG Pr w K mg base C "is_answer" 2 ["self", "setting"] (pIsAns C CW)
  nxt : MtG Pr w K mg base C "next_answers" 2 ["self", "setting"] (pNext C CW)
  put : FnG Pr w K mg base "_law_put" 1 ["setting", "at", "value"] pPut
  most : FnG Pr w K mg base "most_beside" 1 ["web"] (pMost CW)
  ref : FnG Pr w K mg base "_law_refused" 7 ["web", "colours", "start", "goal", "word", "due"] (pRefused CW)
  lead : FnG Pr w K mg base "lead_many" 6 ["web", "colours", "start", "goal"] (pLead CW CR CB CF CN)
  row : FnG Pr w K mg base "_law_row_stands" 2 ["row", "start", "goal", "ties", "colours"] (pStands CR)
def pPairsSt : Pm := fun Γ o => ∃ n : Nat, Γ = [.va (.int n)] ∧ 2 ≤ n ∧ n ≤ 7 ∧ o = .ret (.va (.bl true))
def NP : List Str := ["n", "told", "web", "setting", "ties", "k", "j", "world", "stuck", "place", "colour", "other", "value"]
theorem scPairsSt : FnScope NP ["n"] (defScope sPairsSt) := ⟨rfl, rfl, rfl, by decide +kernel, rfl, by decide +kernel, by decide +kernel⟩
theorem ok_pairsSt {f C CW CR CB CF CN : Addr} {fd : FuncData} (F : Fun K "_law_pairs_stand" "_law_pairs_stand" sPairsSt f fd) (T : Bi mg) (R : ColT K C) (B : WebT K CW) (G : StandG Pr w K mg base C CW CR CB CF CN) : FnOk Pr w K mg base (L2N.CX Pr w) 8 f fd ["n"] (mkSp K pPairsSt) := by
  refine fn_sds F scPairsSt (fun Γ o ⟨_, h2, _⟩ => by rw [h2]; rfl) fun cdv A outer s H E hr H0 Oc Γ o ⟨n, h3, hn2, hn7, h4⟩ => ?_
  subst h3 h4
  have P := pair_ok n hn2 hn7
  have gd := P.good
  have lT := P.len
  have r1 := hr.mono (show 1 ≤ 7 by decide)
  have r2 := hr.mono (show 2 ≤ 7 by decide)
  have r5 := hr.mono (show 5 ≤ 7 by decide)
  have r6 := hr.mono (show 6 ≤ 7 by decide)
  have e2 : (2 : Int) * (n : Int) = ((2 * n : Nat) : Int) := rfl
  have lS : (pairS n).length = 2 * n := (okC_iff.mp P.ok).1
  have m2n : ∀ {X : Cx} {Γ : List Sl} {p : Pos} {e1 e2 : Expr}, True := fun {_ _ _ _ _} => trivial
  refine ⟨.ret (.va (.bl true)), ?_, rfl⟩
  refine d_set 1 scPairsSt.nd (ev_call (s := .va (.tup [webD CW (2 * n) (tiesN n), encT (pairS n)])) G.prs r6 (ea_cons (vv 0) ea_nil) ⟨(n : Int), rfl, by rw [if_neg (by omega), Int.toNat_natCast]⟩) ?_
  refine sds_ifn (q := false) _ (Et.bb (et_w (ew_or (et_not (et_val (e_isT T.isi T.tuple (vb 1) bt_tuple rfl ki_tt))) fun _ => ew_or (et_c cm_neI (e_len T.len (vb 1)) ev_int) fun _ => ew_or1 (et_not (et_val (e_isi T.isi (Ev.r (ev_ixT (d := webD CW (2 * n) (tiesN n)) (vb 1) ev_int (L2.atI_nat (j := 0) rfl))) (e_cls G.gW) (.own CW) rfl kit_self (fun D z => by cases z; exact G.isW)))))) (by simp)) (fun z => nomatch z) (fun _ => sds_nil) ?_
  refine d_set 2 scPairsSt.nd (ev_ixT (d := webD CW (2 * n) (tiesN n)) (vb 1) ev_int (L2.atI_nat (j := 0) rfl)) ?_
  refine d_set 3 scPairsSt.nd (ev_ixT (d := encT (pairS n)) (vb 1) ev_int (L2.atI_nat (j := 1) rfl)) ?_
  refine d_set 4 scPairsSt.nd (ev_lst ea_nil rfl (by decide)) ?_
  refine d_forP (List.range n) (fun k : Nat => .int k) (outP n) [] (fun st => [.va (.int n), .no, .va (webD CW (2 * n) (tiesN n)), .va (encT (pairS n)), .ow (.lst (st.map encN)), .no, .no, .no, .no, .no, .no, .no, .no]) (passes_of rfl) rfl (i_rng T.range (vv 0) (by omega)) (.eq (.no (.eq (.eq (.eq (.eq (.eq (.eq (.eq (.eq (.eq (.eq (.eq .nil))))))))))))) ?_ ?_
  · intro st l pre post hx hs
    have hl := rng_lt hx
    obtain ⟨hpre, _⟩ := range_pre hx
    subst hpre
    have ls := foldl_outP_len n (List.range l) []
    rw [← hs, List.length_range] at ls
    have ls : st.length ≤ l * n := by simpa using ls
    have ls2 : st.length ≤ 49 := Nat.le_trans ls (Nat.le_trans (Nat.mul_le_mul (show l ≤ 7 by omega) hn7) (by decide))
    refine ⟨_, [.va (.int n), .no, .va (webD CW (2 * n) (tiesN n)), .va (encT (pairS n)), .ow (.lst ((outP n st l).map encN)), .va (.int l), .no, .no, .no, .no, .no, .no, .no], t_name 5 scPairsSt.nd, ?_, .eq (.eq (.eq (.eq (.eq (.no (.eq (.eq (.eq (.eq (.eq (.eq (.eq .nil))))))))))))⟩
    refine d_forP (List.range n) (fun k : Nat => .int k) (inP n l) st (fun st => [.va (.int n), .no, .va (webD CW (2 * n) (tiesN n)), .va (encT (pairS n)), .ow (.lst (st.map encN)), .va (.int l), .no, .no, .no, .no, .no, .no, .no]) (passes_of rfl) rfl (i_rng T.range (vv 0) (by omega)) Sub.refl ?_ sds_nil
    intro st2 h pre2 post2 hx2 hs2
    have lp := rng_lt hx2
    have l2 := foldl_inP_len n l pre2 st
    have lp2 : pre2.length ≤ 7 := by
      have := congrArg List.length hx2
      rw [List.length_range, List.length_append] at this
      omega
    rw [← hs2] at l2
    refine ⟨_, [.va (.int n), .no, .va (webD CW (2 * n) (tiesN n)), .va (encT (pairS n)), .ow (.lst ((inP n l st2 h).map encN)), .va (.int l), .va (.int h), .no, .no, .no, .no, .no, .no], t_name 6 scPairsSt.nd, ?_, .eq (.eq (.eq (.eq (.eq (.eq (.no (.eq (.eq (.eq (.eq (.eq (.eq .nil))))))))))))⟩
    refine sds_ifn (q := !decide ((l : Int) = (h : Int))) _ (et_c cm_neI (vv 5) (vv 6)) (fun q => ?_) (fun q => ?_) sds_nil
    · have ne : ¬ (l : Int) = (h : Int) := by simpa using q
      rw [show inP n l st2 h = st2 ++ [(l, n + h)] from if_neg ne]
      refine d_app (d := encN (l, n + h)) (ds := st2.map encN) 4 (ev_tup (ea_cons (vv 5) (ea_cons (ev_add (vv 0) (vv 6)) ea_nil)) rfl (by show 2 ≤ _; decide)) ?_ (sds_nilq (by rw [List.map_append]; rfl))
      rw [List.length_map]
      omega
    · have ne : (l : Int) = (h : Int) := by simpa using q
      rw [show inP n l st2 h = st2 from if_pos ne]
      exact sds_nil
  rw [foldl_outP]
  refine sds_ifn (q := false) _ (Et.bb (et_w (ew_or (et_not (et_val (ev_call G.int r1 (ea_cons (ev_fld (d := .int ((2 * n : Nat) : Int)) B.cl B.noP (vb 2) rfl) (ea_cons ((ev_mul ev_int (vv 0) (.inl ⟨by omega, by omega⟩)).ii e2) ea_nil)) ⟨_, _, rfl, rfl⟩))) fun _ => ew_or (et_not (et_val (e_isT T.isi T.list (Ev.r (ev_fld B.cl B.noT (vb 2) rfl)) bt_list rfl ki_ll))) fun _ => ew_or1 (et_c cm_neI (e_len T.len (Ev.r (ev_fld B.cl B.noT (vb 2) rfl))) (e_len T.len (vb 4))))) (by simp)) (fun z => nomatch z) (fun _ => sds_nil) ?_
  refine sds_ifn (q := false) _ (Et.bb (et_not (et_val (e_allL (fun _ : Nat => true) T.all rfl (e_lc (own := [("k", 5)]) (List.range (tiesN n).length) (fun k : Nat => .int k) (fun _ => .bl true) (fun k => [.va (.int n), .no, .va (webD CW (2 * n) (tiesN n)), .va (encT (pairS n)), .br (.lst ((tiesN n).map encN)), .va (.int k), .no, .no, .no, .no, .no, .no, .no]) rfl scPairsSt.nd (blkOk_by (by rfl)) (i_rng T.range ((e_len T.len (vb 4)).ii (j := ((tiesN n).length : Int)) (by rw [List.length_map])) (by omega)) (by rw [List.length_range]; omega)
      (fun x hx _ _ _ _ _ _ _ => tw_name 5 scPairsSt.nd) (fun r _ => ⟨rfl, .eq (.eq (.eq (.eq (.eq (.no (.eq (.eq (.eq (.eq (.eq (.eq (.eq .nil))))))))))))⟩) ?_)))) (by simp)) (fun z => nomatch z) (fun _ => sds_nil) ?_
  · intro k hk _ _ _ _ _ _ _
    have hk := List.mem_range.mp hk
    have g : (tiesN n)[k]? = some ((tiesN n).getD k (0, 0)) := by rw [List.getD_eq_getElem?_getD, List.getElem?_eq_getElem hk]; rfl
    generalize (tiesN n).getD k (0, 0) = t at g
    have ga : L2.atI ((tiesN n).map encN) (k : Int) = some (encT (toLN t)) := L2.atI_nat (by rw [List.getElem?_map, g]; rfl)
    exact ev_call G.tup r2 (ea_cons (ev_ixL (Ev.r (ev_fld B.cl B.noT (vb 2) rfl)) (vv 5) ga) (ea_cons (ev_ixL (vb 4) (vv 5) ga) ea_nil)) ⟨toLN t, rfl, by show 2 ≤ _; decide, rfl⟩
  refine sds_ifn (q := false) _ (Et.bb (et_not (et_val (ev_call (s := .va (.bl true)) G.tup r2 (ea_cons (vv 3) (ea_cons (e_tupL (ds := (pairS n).map .int) T.tuple (Ev.r (s := .ow (.lst ((pairS n).map .int))) (Ev.aso (e_lc (own := [("k", 5)]) (List.range (2 * n)) (fun k : Nat => .int k) (fun k : Nat => .int ((k : Int) % (n : Int))) (fun k => [.va (.int n), .no, .va (webD CW (2 * n) (tiesN n)), .va (encT (pairS n)), .br (.lst ((tiesN n).map encN)), .va (.int k), .no, .no, .no, .no, .no, .no, .no]) rfl scPairsSt.nd (blkOk_by (by rfl)) (i_rng T.range ((ev_mul ev_int (vv 0) (.inl ⟨by omega, by omega⟩)).ii e2) (by omega)) (by rw [List.length_range]; omega)
      (fun x hx _ _ _ _ _ _ _ => tw_name 5 scPairsSt.nd) (fun r _ => ⟨rfl, .eq (.eq (.eq (.eq (.eq (.no (.eq (.eq (.eq (.eq (.eq (.eq (.eq .nil))))))))))))⟩) (fun k hk _ _ _ _ _ _ _ => ev_mod (e_int T.int (vv 5)) (vv 0) (by omega))) (by unfold pairS; rw [List.map_map]; rfl)) rfl)) ea_nil)) ⟨pairS n, rfl, by omega, rfl⟩))) (by simp)) (fun z => nomatch z) (fun _ => sds_nil) ?_
  refine d_set 7 scPairsSt.nd (s := .ow (colD C CW (2 * n) n (tiesN n))) (ev_make (d := colD C CW (2 * n) n (tiesN n)) G.mak r5 (ea_cons (vv 2) (ea_cons (vv 0) ea_nil)) ⟨2 * n, tiesN n, n, rfl, by rw [if_neg (by omega), Int.toNat_natCast]⟩) ?_
  refine d_set 8 scPairsSt.nd (s := .ow (.lst [])) (ev_meth R.cl G.nxt r2 (vo 7) rfl (by decide) (ea_cons (vv 3) ea_nil) ⟨_, 2 * n, n, tiesN n, pairS n, rfl, rfl, rfl, gd, lS, by omega, by omega, P.frz, rfl⟩) ?_
  refine sds_ifn (q := false) _ (Et.bb (et_w (ew_or (et_c c_nisB (ev_meth (s := .va (.bl (okC (2 * n) n (tiesN n) (pairS n)))) R.cl G.ans r2 (vo 7) rfl (by decide) (ea_cons (vv 3) ea_nil) ⟨_, 2 * n, n, tiesN n, pairS n, rfl, rfl, gd, by omega, rfl⟩) ev_bl) fun _ => ew_or (et_not (et_val (e_isT T.isi T.list (vb 8) bt_list rfl ki_ll))) fun _ => ew_or1 (et_c cm_neI (e_len T.len (vb 8)) ev_int))) (by rw [P.ok]; rfl)) (fun z => nomatch z) (fun _ => sds_nil) ?_
  refine d_forP (List.range (2 * n)) (fun k : Nat => .int k) (fun _ _ => ()) () (fun _ => [.va (.int n), .no, .va (webD CW (2 * n) (tiesN n)), .va (encT (pairS n)), .ow (.lst ((tiesN n).map encN)), .no, .no, .ow (colD C CW (2 * n) n (tiesN n)), .no, .no, .no, .no, .no]) (passes_of rfl) rfl (i_rng T.range ((ev_mul ev_int (vv 0) (.inl ⟨by omega, by omega⟩)).ii e2) (by omega)) (.eq (.eq (.eq (.eq (.eq (.eq (.eq (.eq (.no (.eq (.eq (.eq (.eq .nil))))))))))))) ?_ ?_
  · intro _ p pre post hx hs
    have hp := rng_lt hx
    refine ⟨_, [.va (.int n), .no, .va (webD CW (2 * n) (tiesN n)), .va (encT (pairS n)), .ow (.lst ((tiesN n).map encN)), .no, .no, .ow (colD C CW (2 * n) n (tiesN n)), .no, .va (.int p), .no, .no, .no], t_name 9 scPairsSt.nd, ?_, .eq (.eq (.eq (.eq (.eq (.eq (.eq (.eq (.eq (.no (.eq (.eq (.eq .nil))))))))))))⟩
    refine d_forP (List.range n) (fun k : Nat => .int k) (fun _ _ => ()) () (fun _ => [.va (.int n), .no, .va (webD CW (2 * n) (tiesN n)), .va (encT (pairS n)), .ow (.lst ((tiesN n).map encN)), .no, .no, .ow (colD C CW (2 * n) n (tiesN n)), .no, .va (.int p), .no, .no, .no]) (passes_of rfl) rfl (i_rng T.range (vv 0) (by omega)) Sub.refl ?_ sds_nil
    intro _ k pre2 post2 hx2 hs2
    have hk := rng_lt hx2
    refine ⟨_, _, t_name 10 scPairsSt.nd, sds_ifn (q := false) _ (Et.bb (et_w (ew_and (et_c cm_neI (vv 10) (ev_ixT (d := .int ((pairS n).getD p 0)) (vb 3) (vv 9) (atI_map (getD_at (by omega))))) fun q => ew_and1 (Et.bb (et_c c_nisB (ev_meth (s := .va (.bl (okC (2 * n) n (tiesN n) ((pairS n).set p (k : Int))))) R.cl G.ans r2 (vo 7) rfl (by decide) (ea_cons (ev_call G.put r1 (ea_cons (vv 3) (ea_cons (vv 9) (ea_cons (vv 10) ea_nil))) ⟨pairS n, p, (k : Int), rfl, by omega, by omega, rfl⟩) ea_nil) ⟨_, 2 * n, n, tiesN n, _, rfl, rfl, gd, by rw [List.length_set]; omega, rfl⟩) ev_bl) (q := false) ?_))) ?_) (fun z => nomatch z) (fun _ => sds_nil) sds_nil, .eq (.eq (.eq (.eq (.eq (.eq (.eq (.eq (.eq (.eq (.no (.eq (.eq .nil))))))))))))⟩
    · rw [P.stk p hp k hk (by simpa using q)]
      rfl
    · rw [Bool.and_false]
  refine d_set 11 scPairsSt.nd (e_tupL (ds := (pairO n).map .int) T.tuple (Ev.r (s := .ow (.lst ((pairO n).map .int))) (Ev.aso (e_lc (own := [("value", 12)]) (pairS n) .int (fun v => .int ((n : Int) - 1 - v)) (fun v => [.va (.int n), .no, .va (webD CW (2 * n) (tiesN n)), .va (encT (pairS n)), .br (.lst ((tiesN n).map encN)), .no, .no, .br (colD C CW (2 * n) n (tiesN n)), .no, .no, .no, .no, .va (.int v)]) rfl scPairsSt.nd (blkOk_by (by rfl)) (ei_tup (vv 3) rfl) (by omega)
      (fun x hx _ _ _ _ _ _ _ => tw_name 12 scPairsSt.nd) (fun r _ => ⟨rfl, .eq (.eq (.eq (.eq (.eq (.eq (.eq (.eq (.eq (.eq (.eq (.eq (.no .nil))))))))))))⟩) (fun k hk _ _ _ _ _ _ _ => ev_sub (ev_sub (vv 0) ev_int) (vv 12))) (by unfold pairO; rw [List.map_map]; rfl)) rfl)) ?_
  have lO : (pairO n).length = 2 * n := (okC_iff.mp P.ok2).1
  have mst := P.mst
  refine sds_ifn (q := false) _ (Et.bb (et_w (ew_or (et_not (et_val (ev_call G.int r1 (ea_cons ((ev_call G.most r1 (ea_cons (vv 2) ea_nil) ⟨_, 2 * n, tiesN n, rfl, rfl, by omega, rfl⟩).ii (j := (n : Int) - 1) mst) (ea_cons (ev_sub (vv 0) ev_int) ea_nil)) ⟨_, _, rfl, rfl⟩))) fun _ => ew_or1 (et_not (et_val (ev_call (s := .va (.bl true)) G.ref hr (ea_cons (vv 2) (ea_cons (vv 0) (ea_cons (vv 3) (ea_cons (vv 11) (ea_cons ev_str (ea_cons ((ev_add (vv 0) ev_int).ii (j := mostV (2 * n) (tiesN n) + 2) (by omega)) ea_nil)))))) ⟨2 * n, n, tiesN n, pairS n, pairO n, "few", _, rfl, gd, by omega, by omega, by omega, rfl, .inr (.inl ⟨rfl, rfl, by omega, by omega⟩)⟩))))) (by simp)) (fun z => nomatch z) (fun _ => sds_nil) ?_
  have hd : ∀ p, p < 2 * n → (nb (tiesN n) p).length + 2 ≤ n + 1 := fun p hp => by
    have := most_ge (T := tiesN n) hp
    omega
  have e1 : ((n : Int) + 1) = ((n + 1 : Nat) : Int) := rfl
  refine d_ret (ev_call (s := .va (.bl true)) G.row r2 (ea_cons (ev_call (s := .ow (rowD CR (leadV (2 * n) (n + 1) (tiesN n) (pairS n) (pairO n)))) G.lead r6 (ea_cons (vv 2) (ea_cons (ev_add (vv 0) ev_int) (ea_cons (vv 3) (ea_cons (vv 11) ea_nil)))) ⟨2 * n, (n : Int) + 1, tiesN n, pairS n, pairO n, rfl, gd, by omega, by omega, by omega, ?_⟩) (ea_cons (vv 3) (ea_cons (vv 11) (ea_cons (vo 4) (ea_cons (ev_add (vv 0) ev_int) ea_nil))))) ⟨.br (rowD CR (leadV (2 * n) (n + 1) (tiesN n) (pairS n) (pairO n))), .br (.lst ((tiesN n).map encN)), 2 * n, n + 1, tiesN n, pairS n, pairO n, leadV (2 * n) (n + 1) (tiesN n) (pairS n) (pairO n), rfl, rfl, rfl, rfl, gd, by omega, lead_rows (List.Perm.refl _) gd P.ok1 P.ok2 hd, rfl⟩) rfl
  unfold leadO
  rw [if_neg (by omega), if_neg (by omega), e1, Int.toNat_natCast, P.ok1, P.ok2]
  rfl
end
end K92

namespace K92
open PySem PySem.Spec PyProof.Rows L2 Y
theorem thirteen : ∀ (c : Int), ∃ a0 a1 a2 a3 a4 a5 a6 a7 a8 a9 b0 b1 b2 : Int, drawV c [8, 8, 15, 7, 13, 41, 8, 4, 4, 840, 840, 6, 6] = [a0, a1, a2, a3, a4, a5, a6, a7, a8, a9, b0, b1, b2] ∧ (0 ≤ a1 ∧ a1 < 8) ∧ (0 ≤ a2 ∧ a2 < 15) ∧ (0 ≤ a3 ∧ a3 < 7) ∧ (0 ≤ a4 ∧ a4 < 13) ∧ (0 ≤ a5 ∧ a5 < 41) ∧ (0 ≤ a6 ∧ a6 < 8) ∧ (0 ≤ b1 ∧ b1 < 6) ∧ (0 ≤ b2 ∧ b2 < 6) := by
  intro c
  have hl := drawV_len c [8, 8, 15, 7, 13, 41, 8, 4, 4, 840, 840, 6, 6]
  have g := drawV_get c [8, 8, 15, 7, 13, 41, 8, 4, 4, 840, 840, 6, 6]
  generalize drawV c [8, 8, 15, 7, 13, 41, 8, 4, 4, 840, 840, 6, 6] = l at hl g
  match l, hl with
  | [a0, a1, a2, a3, a4, a5, a6, a7, a8, a9, b0, b1, b2], _ =>
    obtain ⟨_, e1, c1⟩ := g 1 8 rfl (by decide)
    obtain ⟨_, e2, c2⟩ := g 2 15 rfl (by decide)
    obtain ⟨_, e3, c3⟩ := g 3 7 rfl (by decide)
    obtain ⟨_, e4, c4⟩ := g 4 13 rfl (by decide)
    obtain ⟨_, e5, c5⟩ := g 5 41 rfl (by decide)
    obtain ⟨_, e6, c6⟩ := g 6 8 rfl (by decide)
    obtain ⟨_, e7, c7⟩ := g 11 6 rfl (by decide)
    obtain ⟨_, e8, c8⟩ := g 12 6 rfl (by decide)
    cases e1
    cases e2
    cases e3
    cases e4
    cases e5
    cases e6
    cases e7
    cases e8
    exact ⟨_, _, _, _, _, _, _, _, _, _, _, _, _, rfl, c1, c2, c3, c4, c5, c6, c7, c8⟩
theorem mxDef_eq : ∀ (L : List Int), (∀ x ∈ L, 0 ≤ x) → mxDef 0 L = mxI 0 L
  | [], _ => rfl
  | a :: L, h => by
    have ha := h a List.mem_cons_self
    show L.foldl max a = L.foldl max (max 0 a)
    rw [Int.max_eq_right ha]
theorem most_eq {n : Nat} {T F : List (Nat × Nat)} (p : T.Perm F) (h : ∀ t ∈ F, t.1 < t.2) : mostV n T = mxI 0 ((List.range n).map fun k : Nat => (besV F (k : Int) : Int)) := by
  unfold mostV
  rw [mxDef_eq]
  · congr 1
    unfold nearV
    rw [List.map_map]
    refine List.map_congr_left fun k _ => ?_
    rw [bes_nb h, ← (nb_perm p k).length_eq]
    show (((nb T k).map _).length : Int) = _
    rw [List.length_map]
  · intro x hx
    obtain ⟨l, _, rfl⟩ := List.mem_map.mp hx
    omega
theorem most_le {n : Nat} {F : List (Nat × Nat)} {cap : Int} (h0 : 0 ≤ cap) (h : ∀ p : Int, (besV F p : Int) ≤ cap) : mxI 0 ((List.range n).map fun k : Nat => (besV F (k : Int) : Int)) ≤ cap := by
  rcases mxI_mem 0 ((List.range n).map fun k : Nat => (besV F (k : Int) : Int)) with e | e
  · rw [e]; exact h0
  · obtain ⟨k, _, e⟩ := List.mem_map.mp e
    rw [← e]
    exact h _
def NL : List Str := ["script", "shape", "places", "count", "ties", "needed", "place", "colours", "start", "goal", "web", "wrong", "other"]
theorem scLaw : FnScope NL ["script"] (defScope sLaw) := ⟨rfl, rfl, rfl, by decide +kernel, rfl, by decide +kernel, by decide +kernel⟩
structure LawG (Pr : Program) (w : World) (K : PySem.W.Frag) (mg : Str → Option Value) (base : Heap) (CW CR CB CF CN : Addr) : Prop where
  cell : FnG Pr w K mg base "_law_cell" 1 ["script", "k"] pCell
  draw : FnG Pr w K mg base "_law_draw" 1 ["cell", "bases"] pDraw
  int : FnG Pr w K mg base "_law_int" 1 ["actual", "expected"] pInt
  ties : FnG Pr w K mg base "_law_ties" 2 ["cell", "places", "count", "cap"] pTies
  bes : FnG Pr w K mg base "_law_beside" 1 ["place", "ties"] pBeside
  col : FnG Pr w K mg base "_law_colouring" 2 ["cell", "places", "ties", "colours"] pColouring
  web : ClG Pr w K mg base "Web" CW 3 ["self", "places", "ties"] (pWeb CW)
  most : FnG Pr w K mg base "most_beside" 1 ["web"] (pMost CW)
  lead : FnG Pr w K mg base "lead_many" 6 ["web", "colours", "start", "goal"] (pLead CW CR CB CF CN)
  row : FnG Pr w K mg base "_law_row_stands" 2 ["row", "start", "goal", "ties", "colours"] (pStands CR)
  spl : FnG Pr w K mg base "_law_spoilt" 2 ["setting", "ties", "colours", "choice", "at"] pSpoilt
  ref : FnG Pr w K mg base "_law_refused" 7 ["web", "colours", "start", "goal", "word", "due"] (pRefused CW)
  pre : FnG Pr w K mg base "_law_pairs_refused" 7 ["n"] pPairsRef
  pst : FnG Pr w K mg base "_law_pairs_stand" 8 ["n"] pPairsSt
section
variable {Pr : Program} {w : World} {K : PySem.W.Frag} {mg : Str → Option Value} {base : Heap}
/-! ### law, from the web on -/
theorem law_b {f CW CR CB CF CN : Addr} {cdv : Value} {A : Around} {outer : List Env} {s : Shared} {H : Hp} {E : XK} (T : Bi mg) (G : LawG Pr w K mg base CW CR CB CF CN) (hr : Room 8 (A.deeper (envOfC "law" (defScope sLaw) s.heap.objs.size f cdv))) {H0 : Hp} {Oc : List Addr}
    {a0 a1 a2 a3 a4 a5 a6 a7 a8 a9 b0 b1 b2 : Int} {n c : Nat} {F Ts : List (Nat × Nat)} {u v : List Int} (hn : n ≤ 14) (eT : sortP F = Ts) (pT : Ts.Perm F) (gd : Good n F) (gT : Good n Ts) (hc : mostV n Ts + 2 ≤ c) (hc8 : c ≤ 8) (hu : okC n c F u = true) (hv : okC n c F v = true) (h6 : 0 ≤ a6) (hb1 : 0 ≤ b1 ∧ b1 < 6) (hb2 : 0 ≤ b2 ∧ b2 < 6) :
    Sds (cxOf (L2N.CX Pr w) Pr w K mg base NL "law" (defScope sLaw) f cdv A outer s H E) (wx E) H0 Oc [.no, .ow (.lst (([a0, a1, a2, a3, a4, a5, a6, a7, a8, a9, b0, b1, b2] : List Int).map .int)), .va (.int n), .no, .ow (.lst (F.map encN)), .va (.int (mostV n Ts + 2)), .no, .va (.int c), .va (encT u), .va (encT v), .no, .no, .no] ((defBody sLaw).drop 9) (.ret (.va (.bl true))) := by
  have r1 := hr.mono (show 1 ≤ 8 by decide)
  have r2 := hr.mono (show 2 ≤ 8 by decide)
  have r4 := hr.mono (show 4 ≤ 8 by decide)
  have r6 := hr.mono (show 6 ≤ 8 by decide)
  have r7 := hr.mono (show 7 ≤ 8 by decide)
  have m0 := most_nn (n := n) (T := Ts)
  have lu := (okC_iff.mp hu).1
  have lv := (okC_iff.mp hv).1
  have huT : okC n c Ts u = true := by rw [okC_perm pT]; exact hu
  have hvT : okC n c Ts v = true := by rw [okC_perm pT]; exact hv
  have hd : ∀ p, p < n → (nb Ts p).length + 2 ≤ c := fun p hp => by
    have := most_ge (T := Ts) hp
    omega
  have led : ∀ x y : List Int, okC n c Ts x = true → okC n c Ts y = true → leadO CR CB CF CN n (c : Int) Ts x y = .ret (.ow (rowD CR (leadV n c Ts x y))) := fun x y hx hy => by
    unfold leadO
    rw [if_neg (by omega), if_neg (by omega), Int.toNat_natCast, hx, hy]
    rfl
  refine d_set 10 scLaw.nd (s := .va (webD CW n Ts)) (Ev.fz (ev_make (d := webD CW n Ts) G.web r4 (ea_cons (vv 2) (ea_cons (e_list T.list (vb 4)) ea_nil)) ⟨n, F, by omega, gd, rfl, by rw [eT]⟩)) ?_
  refine sds_ifn (q := false) _ (Et.bb (et_not (et_val (ev_call G.int r1 (ea_cons (ev_call G.most r1 (ea_cons (vv 10) ea_nil) ⟨_, n, Ts, rfl, rfl, by omega, rfl⟩) (ea_cons ((ev_sub (vv 5) ev_int).ii (j := mostV n Ts) (by omega)) ea_nil)) ⟨_, _, rfl, rfl⟩))) (by simp)) (fun z => nomatch z) (fun _ => sds_nil) ?_
  refine sds_ifn (q := false) _ (Et.bb (et_not (et_val (ev_call (s := .va (.bl true)) G.row r2 (ea_cons (ev_call (s := .ow (rowD CR (leadV n c Ts u v))) G.lead r6 (ea_cons (vv 10) (ea_cons (vv 7) (ea_cons (vv 8) (ea_cons (vv 9) ea_nil)))) ⟨n, c, Ts, u, v, rfl, gT, by omega, by omega, by omega, (led u v huT hvT).symm⟩) (ea_cons (vv 8) (ea_cons (vv 9) (ea_cons (vo 4) (ea_cons (vv 7) ea_nil))))) ⟨.br (rowD CR (leadV n c Ts u v)), .br (.lst (F.map encN)), n, c, F, u, v, leadV n c Ts u v, rfl, rfl, rfl, rfl, gd, by omega, lead_rows pT gT huT hvT hd, rfl⟩))) (by simp)) (fun z => nomatch z) (fun _ => sds_nil) ?_
  refine d_set 11 scLaw.nd (ev_call G.spl r2 (ea_cons (vv 8) (ea_cons (vo 4) (ea_cons (vv 7) (ea_cons (ev_ixL (d := .int a7) (vo 1) ev_int (L2.atI_nat (j := 7) rfl)) (ea_cons (ev_ixL (d := .int a9) (vo 1) ev_int (L2.atI_nat (j := 9) rfl)) ea_nil))))) ⟨_, n, c, F, u, a7, a9, rfl, rfl, gd, hu, by omega, rfl⟩) ?_
  refine d_set 12 scLaw.nd (ev_call G.spl r2 (ea_cons (vv 9) (ea_cons (vo 4) (ea_cons (vv 7) (ea_cons (ev_ixL (d := .int a8) (vo 1) ev_int (L2.atI_nat (j := 8) rfl)) (ea_cons (ev_ixL (d := .int b0) (vo 1) ev_int (L2.atI_nat (j := 10) rfl)) ea_nil))))) ⟨_, n, c, F, v, a8, b0, rfl, rfl, gd, hv, by omega, rfl⟩) ?_
  have bx : okC n c Ts (spoilV u F c a7 a9) = false := by rw [okC_perm pT]; exact spoil_bad a7 a9 gd hu
  have byy : okC n c Ts (spoilV v F c a8 b0) = false := by rw [okC_perm pT]; exact spoil_bad a8 b0 gd hv
  have lx := spoil_len (c : Int) a7 a9 hu
  have ly := spoil_len (c : Int) a8 b0 hv
  generalize spoilV u F c a7 a9 = x at bx lx
  generalize spoilV v F c a8 b0 = y at byy ly
  have e11 : L2.atI (([a0, a1, a2, a3, a4, a5, a6, a7, a8, a9, b0, b1, b2] : List Int).map D.int) 11 = some (.int b1) := L2.atI_nat (j := 11) rfl
  have e12 : L2.atI (([a0, a1, a2, a3, a4, a5, a6, a7, a8, a9, b0, b1, b2] : List Int).map D.int) 12 = some (.int b2) := L2.atI_nat (j := 12) rfl
  have e6 : L2.atI (([a0, a1, a2, a3, a4, a5, a6, a7, a8, a9, b0, b1, b2] : List Int).map D.int) 6 = some (.int a6) := L2.atI_nat (j := 6) rfl
  refine sds_ifn (q := false) _ (Et.bb (et_not (et_val (ev_call (s := .va (.bl true)) G.ref r7 (ea_cons (vv 10) (ea_cons (ev_sub (vv 5) ev_int) (ea_cons (vv 11) (ea_cons (vv 9) (ea_cons ev_str (ea_cons (vv 5) ea_nil)))))) ⟨n, _, Ts, x, v, "few", _, rfl, gT, by omega, by omega, by omega, rfl, .inr (.inl ⟨rfl, rfl, by omega, by omega⟩)⟩))) (by simp)) (fun z => nomatch z) (fun _ => sds_nil) ?_
  refine sds_ifn (q := false) _ (Et.bb (et_not (et_val (ev_call (s := .va (.bl true)) G.ref r7 (ea_cons (vv 10) (ea_cons ev_int (ea_cons (vv 8) (ea_cons (vv 12) (ea_cons ev_str (ea_cons (vv 5) ea_nil)))))) ⟨n, _, Ts, u, y, "few", _, rfl, gT, by omega, by omega, by omega, rfl, .inr (.inl ⟨rfl, rfl, by omega, by omega⟩)⟩))) (by simp)) (fun z => nomatch z) (fun _ => sds_nil) ?_
  refine sds_ifn (q := false) _ (Et.bb (et_not (et_val (ev_call (s := .va (.bl true)) G.ref r7 (ea_cons (vv 10) (ea_cons (ev_sub ev_int (ev_ixL (vo 1) ev_int e11)) (ea_cons (vv 11) (ea_cons (vv 9) (ea_cons ev_str (ea_cons (ev_neg ev_int) ea_nil)))))) ⟨n, _, Ts, x, v, "world", _, rfl, gT, by omega, by omega, by omega, rfl, .inl ⟨rfl, rfl, by omega⟩⟩))) (by simp)) (fun z => nomatch z) (fun _ => sds_nil) ?_
  refine sds_ifn (q := false) _ (Et.bb (et_not (et_val (ev_call (s := .va (.bl true)) G.ref r7 (ea_cons (vv 10) (ea_cons (ev_add ev_int (ev_ixL (vo 1) ev_int e11)) (ea_cons (vv 8) (ea_cons (vv 9) (ea_cons ev_str (ea_cons (ev_neg ev_int) ea_nil)))))) ⟨n, _, Ts, u, v, "world", _, rfl, gT, by omega, by omega, by omega, rfl, .inl ⟨rfl, rfl, by omega⟩⟩))) (by simp)) (fun z => nomatch z) (fun _ => sds_nil) ?_
  obtain ⟨k, hk, hk2⟩ : ∃ k : Nat, (15 : Int) + b1 = (k : Int) ∧ 15 ≤ k ∧ k ≤ 20 := ⟨(15 + b1).toNat, by omega, by omega, by omega⟩
  have g0 : Good k [] := ⟨(fun _ h => by cases h), List.nodup_nil, by decide⟩
  have s0 : sortP [] = [] := by unfold sortP; rw [List.map_nil, show sortL [] = [] by decide +kernel]; rfl
  refine sds_ifn (q := false) _ (Et.bb (et_not (et_val (ev_call (s := .va (.bl true)) G.ref r7 (ea_cons (Ev.fz (ev_make (d := webD CW k []) G.web r4 (ea_cons ((ev_add ev_int (ev_ixL (vo 1) ev_int e11)).ii hk) (ea_cons (ev_lst ea_nil rfl (by decide)) ea_nil)) ⟨k, [], by omega, g0, rfl, by rw [s0]⟩)) (ea_cons (ev_add ev_int (ev_ixL (vo 1) ev_int e6)) (ea_cons (vv 11) (ea_cons (vv 12) (ea_cons ev_str (ea_cons (ev_neg ev_int) ea_nil)))))) ⟨k, _, [], x, y, "world", _, rfl, g0, by omega, by omega, by omega, rfl, .inl ⟨rfl, rfl, by omega⟩⟩))) (by simp)) (fun z => nomatch z) (fun _ => sds_nil) ?_
  refine sds_ifn (q := false) _ (Et.bb (et_not (et_val (ev_call (s := .va (.bl true)) G.ref r7 (ea_cons (vv 10) (ea_cons (vv 7) (ea_cons (vv 11) (ea_cons (vv 12) (ea_cons ev_str (ea_cons (vv 11) ea_nil)))))) ⟨n, _, Ts, x, y, "setting", _, rfl, gT, by omega, by omega, by omega, rfl, .inr (.inr ⟨rfl, x, rfl, by omega, by omega, by omega, .inl ⟨by rw [Int.toNat_natCast]; exact bx, rfl⟩⟩)⟩))) (by simp)) (fun z => nomatch z) (fun _ => sds_nil) ?_
  refine sds_ifn (q := false) _ (Et.bb (et_not (et_val (ev_call (s := .va (.bl true)) G.ref r7 (ea_cons (vv 10) (ea_cons (vv 7) (ea_cons (vv 11) (ea_cons (vv 9) (ea_cons ev_str (ea_cons (vv 11) ea_nil)))))) ⟨n, _, Ts, x, v, "setting", _, rfl, gT, by omega, by omega, by omega, rfl, .inr (.inr ⟨rfl, x, rfl, by omega, by omega, by omega, .inl ⟨by rw [Int.toNat_natCast]; exact bx, rfl⟩⟩)⟩))) (by simp)) (fun z => nomatch z) (fun _ => sds_nil) ?_
  refine sds_ifn (q := false) _ (Et.bb (et_not (et_val (ev_call (s := .va (.bl true)) G.ref r7 (ea_cons (vv 10) (ea_cons (vv 7) (ea_cons (vv 8) (ea_cons (vv 12) (ea_cons ev_str (ea_cons (vv 12) ea_nil)))))) ⟨n, _, Ts, u, y, "setting", _, rfl, gT, by omega, by omega, by omega, rfl, .inr (.inr ⟨rfl, y, rfl, by omega, by omega, by omega, .inr ⟨by rw [Int.toNat_natCast]; exact huT, by rw [Int.toNat_natCast]; exact byy, rfl⟩⟩)⟩))) (by simp)) (fun z => nomatch z) (fun _ => sds_nil) ?_
  refine sds_ifn (q := false) _ (Et.bb (et_not (et_val (ev_call (s := .va (.bl true)) G.row r2 (ea_cons (ev_call (s := .ow (rowD CR (leadV n c Ts v u))) G.lead r6 (ea_cons (vv 10) (ea_cons (vv 7) (ea_cons (vv 9) (ea_cons (vv 8) ea_nil)))) ⟨n, c, Ts, v, u, rfl, gT, by omega, by omega, by omega, (led v u hvT huT).symm⟩) (ea_cons (vv 9) (ea_cons (vv 8) (ea_cons (vo 4) (ea_cons (vv 7) ea_nil))))) ⟨.br (rowD CR (leadV n c Ts v u)), .br (.lst (F.map encN)), n, c, F, v, u, leadV n c Ts v u, rfl, rfl, rfl, rfl, gd, by omega, lead_rows pT gT hvT huT hd, rfl⟩))) (by simp)) (fun z => nomatch z) (fun _ => sds_nil) ?_
  refine sds_ifn (q := false) _ (Et.bb (et_w (ew_or (et_not (et_val (ev_call (s := .va (.bl true)) G.pre r7 (ea_cons (ev_sub ev_int (ev_ixL (vo 1) ev_int e11)) ea_nil) ⟨_, rfl, by omega, rfl⟩))) fun _ => ew_or1 (et_not (et_val (ev_call (s := .va (.bl true)) G.pre r7 (ea_cons (ev_add ev_int (ev_ixL (vo 1) ev_int e11)) ea_nil) ⟨_, rfl, by omega, rfl⟩))))) (by simp)) (fun z => nomatch z) (fun _ => sds_nil) ?_
  obtain ⟨j, hj, hj2⟩ : ∃ j : Nat, (2 : Int) + b2 = (j : Int) ∧ 2 ≤ j ∧ j ≤ 7 := ⟨(2 + b2).toNat, by omega, by omega, by omega⟩
  exact d_ret (ev_call (s := .va (.bl true)) G.pst hr (ea_cons ((ev_add ev_int (ev_ixL (vo 1) ev_int e12)).ii hj) ea_nil) ⟨j, rfl, hj2.1, hj2.2, rfl⟩) rfl
end
end K92

namespace K92
open PySem PySem.Spec PyProof.Rows L2 Y
theorem star_L {es rest : List Expr} {p : Pos} {env : Env} : starEach (.List es p :: rest) env = (false, eval (.List es p) env) :: starEach rest env := rfl
theorem star_C {f : Expr} {as rest : List Expr} {ks : List Keyword} {p : Pos} {env : Env} : starEach (.Call f as ks p :: rest) env = (false, eval (.Call f as ks p) env) :: starEach rest env := rfl
section
variable {Pr : Program} {w : World} {K : PySem.W.Frag} {mg : Str → Option Value} {base : Heap}
theorem ok_law {f CW CR CB CF CN : Addr} {fd : FuncData} (F : Fun K "law" "law" sLaw f fd) (T : Bi mg) (G : LawG Pr w K mg base CW CR CB CF CN) : FnOk Pr w K mg base (L2N.CX Pr w) 9 f fd ["script"] (mkSp K pLaw) := by
  refine fn_sds F scLaw (fun Γ o ⟨_, h2, _⟩ => by rw [h2]; rfl) fun cdv A outer s H E hr H0 Oc Γ o ⟨ns, h3, hns, h4⟩ => ?_
  subst h3 h4
  have r1 := hr.mono (show 1 ≤ 8 by decide)
  have r2 := hr.mono (show 2 ≤ 8 by decide)
  refine ⟨.ret (.va (.bl true)), ?_, rfl⟩
  obtain ⟨a0, a1, a2, a3, a4, a5, a6, a7, a8, a9, b0, b1, b2, ea, c1, c2, c3, c4, c5, c6, d1, d2⟩ := thirteen (cellV ns 0)
  have h1 : ∀ (es : List Expr) (p : Pos), intsOf es = some [8, 8, 15, 7, 13, 41, 8, 4, 4, 840, 840, 6, 6] → Ev (cxOf (L2N.CX Pr w) Pr w K mg base NL "law" (defScope sLaw) f cdv A outer s H E) H0 Oc [.va (.fz (ns.map .int)), .no, .no, .no, .no, .no, .no, .no, .no, .no, .no, .no, .no] (.List es p) (.ow (.lst (([8, 8, 15, 7, 13, 41, 8, 4, 4, 840, 840, 6, 6] : List Int).map .int))) := fun es p h => ev_ints h (by decide)
  have h2 : ∀ (es : List Expr) (p p1 p2 p3 p4 p5 p6 : Pos) (kk : Nat), intsOf es = some [8, 8, 15, 7, 13, 41, 8, 4, 4, 840, 840, 6, 6] → Ev (cxOf (L2N.CX Pr w) Pr w K mg base NL "law" (defScope sLaw) f cdv A outer s H E) H0 Oc [.va (.fz (ns.map .int)), .no, .no, .no, .no, .no, .no, .no, .no, .no, .no, .no, .no] (.Call (.Name "_law_draw" p1) [.Call (.Name "_law_cell" p2) [.Name "script" p3, .Constant (.int 0) kk p4] [] p5, .List es p] [] p6) (.ow (.lst ((drawV (cellV ns 0) [8, 8, 15, 7, 13, 41, 8, 4, 4, 840, 840, 6, 6]).map .int))) := fun es p p1 p2 p3 p4 p5 p6 kk h => ev_call G.draw r1 (ea_cons (ev_call G.cell r1 (ea_cons (vv 0) (ea_cons ev_int ea_nil)) ⟨ns, 0, hns, rfl, rfl⟩) (ea_cons (h1 es p h) ea_nil)) ⟨cellV ns 0, [8, 8, 15, 7, 13, 41, 8, 4, 4, 840, 840, 6, 6], by decide, by decide, rfl, rfl⟩
  refine d_set 1 scLaw.nd (s := .ow (.lst (([a0, a1, a2, a3, a4, a5, a6, a7, a8, a9, b0, b1, b2] : List Int).map .int))) (Ev.aso (h2 _ _ _ _ _ _ _ _ _ rfl) (congrArg (fun l : List Int => D.lst (l.map .int)) ea)) ?_
  obtain ⟨n, m, q1, q2, hn, hm⟩ : ∃ n m : Nat, (a0 = 1 → a2 = n ∧ a5 = m) ∧ (a0 ≠ 1 → a1 = n ∧ a4 = m) ∧ n ≤ 14 ∧ m ≤ 40 := by
    by_cases h : a0 = 1
    · refine ⟨a2.toNat, a5.toNat, fun _ => ⟨?_, ?_⟩, fun z => absurd h z, ?_, ?_⟩ <;> omega
    · refine ⟨a1.toNat, a4.toNat, fun z => absurd z h, fun _ => ⟨?_, ?_⟩, ?_, ?_⟩ <;> omega
  refine d_set 2 scLaw.nd (ev_ixL (d := .int a1) (vo 1) ev_int (L2.atI_nat (j := 1) rfl)) ?_
  refine d_set 3 scLaw.nd (ev_ixL (d := .int a4) (vo 1) ev_int (L2.atI_nat (j := 4) rfl)) ?_
  refine sds_ifn [.va (.fz (ns.map .int)), .ow (.lst (([a0, a1, a2, a3, a4, a5, a6, a7, a8, a9, b0, b1, b2] : List Int).map .int)), .va (.int n), .va (.int m), .no, .no, .no, .no, .no, .no, .no, .no, .no]
    (et_c cm_eqI (ev_ixL (d := .int a0) (vo 1) ev_int (L2.atI_nat (j := 0) rfl)) ev_int) (fun c => ?_) (fun c => ?_) ?_
  · obtain ⟨e1, e2⟩ := q1 (of_decide_eq_true c)
    refine d_set 2 scLaw.nd ((ev_ixL (d := .int a2) (vo 1) ev_int (L2.atI_nat (j := 2) rfl)).ii e1) ?_
    exact d_set 3 scLaw.nd ((ev_ixL (d := .int a5) (vo 1) ev_int (L2.atI_nat (j := 5) rfl)).ii e2) sds_nil
  · obtain ⟨e1, e2⟩ := q2 (of_decide_eq_false c)
    exact sds_nilq (by rw [← e1, ← e2]; rfl)
  refine d_set 4 scLaw.nd (s := .ow (.lst ((tiesV (cellV ns 1) n m a3).map encN))) (ev_call G.ties r2 (ea_cons (ev_call G.cell r1 (ea_cons (vv 0) (ea_cons ev_int ea_nil)) ⟨ns, 1, hns, rfl, rfl⟩) (ea_cons (vv 2) (ea_cons (vv 3) (ea_cons (ev_ixL (d := .int a3) (vo 1) ev_int (L2.atI_nat (j := 3) rfl)) ea_nil)))) ⟨cellV ns 1, n, m, a3, by omega, by omega, c3.1, rfl, rfl⟩) ?_
  have tk := ties_ok (cellV ns 1) n m a3 c3.1
  generalize tiesV (cellV ns 1) n m a3 = Fs at tk
  have gd : Good n Fs := ⟨tk.lt, tk.nd, Nat.le_trans tk.len (by omega)⟩
  have pT := sortP_perm Fs
  have gT := gd.perm pT
  have me := most_eq (n := n) pT fun t ht => (gd.lt t ht).1
  have ml := most_le (n := n) c3.1 tk.cap
  have m0 := most_nn (n := n) (T := sortP Fs)
  generalize eT : sortP Fs = Ts at pT gT me m0
  have lF := gd.len
  have ein : D.lst ((0 :: (List.range n).map fun k : Nat => (besV Fs (k : Int) : Int)).map .int) = .lst ([D.int 0] ++ (List.range n).map fun k : Nat => D.int (besV Fs (k : Int))) := by
    rw [List.map_cons, List.map_map]
    rfl
  refine d_set 5 scLaw.nd (s := .va (.int (mostV n Ts + 2))) (Ev.ii (ev_add ev_int (e_maxL (n := 0) (ns := (List.range n).map fun k : Nat => (besV Fs (k : Int) : Int)) T.max rfl (Ev.r (Ev.aso (ev_catL (Ev.r (s := .ow (.lst [D.int 0])) (ev_lst (ea_cons ev_int ea_nil) rfl (by show 1 ≤ _; decide)) rfl) (Ev.r (s := .ow (.lst ((List.range n).map fun k : Nat => D.int (besV Fs (k : Int))))) (e_lc (own := [("place", 6)]) (List.range n) (fun k : Nat => .int k) (fun k : Nat => .int (besV Fs (k : Int))) (fun k => [.va (.fz (ns.map .int)), .br (.lst (([a0, a1, a2, a3, a4, a5, a6, a7, a8, a9, b0, b1, b2] : List Int).map .int)), .va (.int n), .va (.int m), .br (.lst (Fs.map encN)), .no, .va (.int k), .no, .no, .no, .no, .no, .no]) rfl scLaw.nd (blkOk_by (by rfl)) (i_rng T.range (vv 2) (by omega)) (by rw [List.length_range]; omega)
    (fun x hx _ _ _ _ _ _ _ => tw_name 6 scLaw.nd) (fun k _ => ⟨rfl, .eq (.eq (.eq (.eq (.eq (.eq (.no (.eq (.eq (.eq (.eq (.eq (.eq .nil))))))))))))⟩) (fun k hk _ _ _ _ _ _ _ => ev_call G.bes r1 (ea_cons (vv 6) (ea_cons (vr 4) ea_nil)) ⟨_, (k : Int), Fs, rfl, rfl, by omega, rfl⟩)) rfl) ?_) ein.symm) rfl))) (by rw [me]; omega)) ?_
  · rw [List.length_map, List.length_range]
    show 1 + _ ≤ _
    omega
  rw [← me] at ml
  have mq := Int.emod_nonneg a6 (b := 9 - (mostV n Ts + 2)) (by omega)
  have mq2 := Int.emod_lt_of_pos a6 (b := 9 - (mostV n Ts + 2)) (by omega)
  obtain ⟨c, hc⟩ : ∃ c : Nat, mostV n Ts + 2 + a6 % (9 - (mostV n Ts + 2)) = (c : Int) := ⟨(mostV n Ts + 2 + a6 % (9 - (mostV n Ts + 2))).toNat, by omega⟩
  refine d_set 7 scLaw.nd (s := .va (.int c)) ((ev_add (vv 5) (ev_mod (e_int T.int (ev_ixL (d := .int a6) (vo 1) ev_int (L2.atI_nat (j := 6) rfl))) (ev_sub ev_int (vv 5)) (by omega))).ii hc) ?_
  have hf : ∀ p, p < n → (nb Fs p).length + 2 ≤ c := fun p hp => by
    have h1 := most_ge (T := Ts) hp
    have h2 := (nb_perm pT p).length_eq
    omega
  have col : ∀ {Γ : List Sl}, True := fun {_} => trivial
  refine d_set 8 scLaw.nd (s := .va (encT (colV (cellV ns 2) n Fs c))) (ev_call G.col r2 (ea_cons (ev_call G.cell r1 (ea_cons (vv 0) (ea_cons ev_int ea_nil)) ⟨ns, 2, hns, rfl, rfl⟩) (ea_cons (vv 2) (ea_cons (vo 4) (ea_cons (vv 7) ea_nil)))) ⟨_, cellV ns 2, n, c, Fs, rfl, rfl, gd, by omega, by omega, hf, rfl⟩) ?_
  refine d_set 9 scLaw.nd (s := .va (encT (colV (cellV ns 3) n Fs c))) (ev_call G.col r2 (ea_cons (ev_call G.cell r1 (ea_cons (vv 0) (ea_cons ev_int ea_nil)) ⟨ns, 3, hns, rfl, rfl⟩) (ea_cons (vv 2) (ea_cons (vo 4) (ea_cons (vv 7) ea_nil)))) ⟨_, cellV ns 3, n, c, Fs, rfl, rfl, gd, by omega, by omega, hf, rfl⟩) ?_
  have hu := col_ok (cl := c) (cellV ns 2) gd hf
  have hv := col_ok (cl := c) (cellV ns 3) gd hf
  generalize colV (cellV ns 2) n Fs c = u at hu
  generalize colV (cellV ns 3) n Fs c = v at hv
  exact sds_in (.no (.eq (.eq (.no (.eq (.eq (.eq (.eq (.eq (.eq (.eq (.eq (.eq .nil))))))))))))) (law_b T G hr hn eT pT gd gT (by omega) (by omega) hu hv c6.1 d1 d2)
end
end K92

namespace K92
open PySem PySem.Spec PyProof.Rows L2 Y
abbrev eB : Stmt := inClass (top 6) 0
abbrev eN : Stmt := inClass (top 8) 0
abbrev eF : Stmt := inClass (top 10) 0
theorem all_mk {l : PySem.W.OpenLaw} {w : World} {K : PySem.W.Frag} {h : Heap} {mg : Str → Option Value} {fa CS CB CF CN CV C CR CW f_wi f_ans f_nxt f_oi cda_oi cc_oi f_ri f_bi f_wth f_chk f_mst f_spr f_lead f_prs f_cell f_draw f_int f_tup f_bes f_tie f_col f_put f_spl f_cld f_row f_ref f_pre f_pst f_law f_CB cda_CB cc_CB f_CF cda_CF cc_CF f_CN cda_CN cc_CN : Addr} (X : K.In h) (G : h.Ns mainGlobals mg) (hfa : mg "law" = some (.ref fa))
    {od_wi an_wi : Option Addr} {sl_wi : Array (Option Value)} {oc_wi kV_wi dc_wi pm_wi cd_wi ct_wi : Value}
    {u_C_MOST_PLACES : Tok}
    {u_C_MOST_COLOURS : Tok}
    {od_ans an_ans : Option Addr} {sl_ans : Array (Option Value)} {oc_ans kV_ans dc_ans pm_ans cd_ans ct_ans : Value}
    {od_nxt an_nxt : Option Addr} {sl_nxt : Array (Option Value)} {oc_nxt kV_nxt dc_nxt pm_nxt cd_nxt ct_nxt : Value}
    {od_oi an_oi ccd_oi cld_oi : Option Addr} {sl_oi ccs_oi csl_oi : Array (Option Value)} {vs_oi : Array Value} {file_oi : Str} {tf_oi : Tok} {oc_oi kV_oi dc_oi pm_oi ct_oi ccl_oi cl_oi : Value}
    {od_ri an_ri : Option Addr} {sl_ri : Array (Option Value)} {oc_ri kV_ri dc_ri pm_ri cd_ri ct_ri : Value}
    {od_bi an_bi : Option Addr} {sl_bi : Array (Option Value)} {oc_bi kV_bi dc_bi pm_bi cd_bi ct_bi : Value}
    {od_wth an_wth : Option Addr} {sl_wth : Array (Option Value)} {oc_wth kV_wth dc_wth pm_wth cd_wth ct_wth : Value}
    {od_chk an_chk : Option Addr} {sl_chk : Array (Option Value)} {oc_chk kV_chk dc_chk pm_chk cd_chk ct_chk : Value}
    {od_mst an_mst : Option Addr} {sl_mst : Array (Option Value)} {oc_mst kV_mst dc_mst pm_mst cd_mst ct_mst : Value}
    {od_spr an_spr : Option Addr} {sl_spr : Array (Option Value)} {oc_spr kV_spr dc_spr pm_spr cd_spr ct_spr : Value}
    {od_lead an_lead : Option Addr} {sl_lead : Array (Option Value)} {oc_lead kV_lead dc_lead pm_lead cd_lead ct_lead : Value}
    {od_prs an_prs : Option Addr} {sl_prs : Array (Option Value)} {oc_prs kV_prs dc_prs pm_prs cd_prs ct_prs : Value}
    {od_cell an_cell : Option Addr} {sl_cell : Array (Option Value)} {oc_cell kV_cell dc_cell pm_cell cd_cell ct_cell : Value}
    {od_draw an_draw : Option Addr} {sl_draw : Array (Option Value)} {oc_draw kV_draw dc_draw pm_draw cd_draw ct_draw : Value}
    {od_int an_int : Option Addr} {sl_int : Array (Option Value)} {oc_int kV_int dc_int pm_int cd_int ct_int : Value}
    {od_tup an_tup : Option Addr} {sl_tup : Array (Option Value)} {oc_tup kV_tup dc_tup pm_tup cd_tup ct_tup : Value}
    {od_bes an_bes : Option Addr} {sl_bes : Array (Option Value)} {oc_bes kV_bes dc_bes pm_bes cd_bes ct_bes : Value}
    {od_tie an_tie : Option Addr} {sl_tie : Array (Option Value)} {oc_tie kV_tie dc_tie pm_tie cd_tie ct_tie : Value}
    {od_col an_col : Option Addr} {sl_col : Array (Option Value)} {oc_col kV_col dc_col pm_col cd_col ct_col : Value}
    {od_put an_put : Option Addr} {sl_put : Array (Option Value)} {oc_put kV_put dc_put pm_put cd_put ct_put : Value}
    {od_spl an_spl : Option Addr} {sl_spl : Array (Option Value)} {oc_spl kV_spl dc_spl pm_spl cd_spl ct_spl : Value}
    {od_cld an_cld : Option Addr} {sl_cld : Array (Option Value)} {oc_cld kV_cld dc_cld pm_cld cd_cld ct_cld : Value}
    {od_row an_row : Option Addr} {sl_row : Array (Option Value)} {oc_row kV_row dc_row pm_row cd_row ct_row : Value}
    {od_ref an_ref : Option Addr} {sl_ref : Array (Option Value)} {oc_ref kV_ref dc_ref pm_ref cd_ref ct_ref : Value}
    {od_pre an_pre : Option Addr} {sl_pre : Array (Option Value)} {oc_pre kV_pre dc_pre pm_pre cd_pre ct_pre : Value}
    {od_pst an_pst : Option Addr} {sl_pst : Array (Option Value)} {oc_pst kV_pst dc_pst pm_pst cd_pst ct_pst : Value}
    {od_law an_law : Option Addr} {sl_law : Array (Option Value)} {oc_law kV_law dc_law pm_law cd_law ct_law : Value}
    {nm_CB qn_CB : Str} {N_CB : Addr} {bs_CB su_CB : List Value} {sn_CB : List Str} {ab_CB : Bool} {col_CB : Option Bool} {dd_CB : Option Addr} {m0_CB m1_CB m2_CB m3_CB m5_CB : Option Value}
    {od_CB an_CB ccd_CB cld_CB : Option Addr} {sl_CB ccs_CB csl_CB : Array (Option Value)} {vs_CB : Array Value} {file_CB : Str} {tf_CB : Tok} {oc_CB kV_CB dc_CB pm_CB ct_CB ccl_CB cl_CB : Value}
    {nm_CF qn_CF : Str} {N_CF : Addr} {bs_CF su_CF : List Value} {sn_CF : List Str} {ab_CF : Bool} {col_CF : Option Bool} {dd_CF : Option Addr} {m0_CF m1_CF m2_CF m3_CF m5_CF : Option Value}
    {od_CF an_CF ccd_CF cld_CF : Option Addr} {sl_CF ccs_CF csl_CF : Array (Option Value)} {vs_CF : Array Value} {file_CF : Str} {tf_CF : Tok} {oc_CF kV_CF dc_CF pm_CF ct_CF ccl_CF cl_CF : Value}
    {nm_CN qn_CN : Str} {N_CN : Addr} {bs_CN su_CN : List Value} {sn_CN : List Str} {ab_CN : Bool} {col_CN : Option Bool} {dd_CN : Option Addr} {m0_CN m1_CN m2_CN m3_CN m5_CN : Option Value}
    {od_CN an_CN ccd_CN cld_CN : Option Addr} {sl_CN ccs_CN csl_CN : Array (Option Value)} {vs_CN : Array Value} {file_CN : Str} {tf_CN : Tok} {oc_CN kV_CN dc_CN pm_CN ct_CN ccl_CN cl_CN : Value}
    {t_MOST_PLACES : Tok}
    {t_MOST_TIES : Tok}
    (n_CS : PySem.W.nsIn K mainGlobals "StepError" = some (some (.ref CS)))
    (n_CB : PySem.W.nsIn K mainGlobals "BadWorld" = some (some (.ref CB)))
    (n_CF : PySem.W.nsIn K mainGlobals "TooFew" = some (some (.ref CF)))
    (n_CN : PySem.W.nsIn K mainGlobals "NotAnAnswer" = some (some (.ref CN)))
    (n_CV : PySem.W.nsIn K mainGlobals "World" = some (some (.ref CV)))
    (n_C : PySem.W.nsIn K mainGlobals "Colours" = some (some (.ref C)))
    (n_CR : PySem.W.nsIn K mainGlobals "Row" = some (some (.ref CR)))
    (n_CW : PySem.W.nsIn K mainGlobals "Web" = some (some (.ref CW)))
    (oc0 : PySem.W.specialIn K (.builtin "object.__class__") "__get__" = some (some (.builtin "getset_descriptor.__get__")))
    (oc1 : PySem.W.takesIn K (.builtin "object.__class__") = some true)
    (a_wi : PySem.W.findIn K (.ref CV) "__init__" = some (some (.ref f_wi)))
    (i_wi : PySem.W.isFn K (.ref f_wi) = true)
    (l_wi : K.lookup f_wi = some ⟨oc_wi, od_wi, .func (PySem.W.fnOf "__init__" "World.__init__" (defArgs wInit) (defBody wInit) (defScope wInit) .none kV_wi dc_wi pm_wi an_wi cd_wi ct_wi), sl_wi⟩)
    (c_wi : PySem.W.codeIn K cd_wi "World.__init__" = true)
    (k_wi : PySem.W.keepIn K (.ref f_wi) = true)
    (pg_C : PySem.W.plainGet K C Str.empty = true)
    (hd_C : PySem.W.hasDictIn K C = true)
    (po_C : PySem.W.plainOver K C = true)
    (sa_C : PySem.W.findIn K (.ref C) "__setattr__" = some (some (.builtin "object.__setattr__")))
    (kc_C : PySem.W.keepIn K (.ref C) = true)
    (mk_C : PySem.W.makesIn K C = true)
    (ca_C : PySem.W.findIn K (.ref C) "__class__" = some (some (.builtin "object.__class__")))
    (mo_C : PySem.W.mroIn K C (.type "object") = some true)
    (rd_C : PySem.W.readsIn K C (.type "type") = true)
    (rg_C : PySem.W.specialIn K (.ref C) "__getattribute__" = some (some (.builtin "type.__getattribute__")))
    (cv_C_MOST_PLACES : PySem.W.findCls K (.ref C) (.type "type") "MOST_PLACES" = some (.val (.int 14 u_C_MOST_PLACES)))
    (cv_C_MOST_COLOURS : PySem.W.findCls K (.ref C) (.type "type") "MOST_COLOURS" = some (.val (.int 8 u_C_MOST_COLOURS)))
    (no_C_size : PySem.W.findIn K (.ref C) "size" = some none)
    (no_C_web : PySem.W.findIn K (.ref C) "web" = some none)
    (no_C_colours : PySem.W.findIn K (.ref C) "colours" = some none)
    (a_ans : PySem.W.findIn K (.ref C) "is_answer" = some (some (.ref f_ans)))
    (i_ans : PySem.W.isFn K (.ref f_ans) = true)
    (l_ans : K.lookup f_ans = some ⟨oc_ans, od_ans, .func (PySem.W.fnOf "is_answer" "Colours.is_answer" (defArgs cIsAns) (defBody cIsAns) (defScope cIsAns) .none kV_ans dc_ans pm_ans an_ans cd_ans ct_ans), sl_ans⟩)
    (c_ans : PySem.W.codeIn K cd_ans "Colours.is_answer" = true)
    (k_ans : PySem.W.keepIn K (.ref f_ans) = true)
    (a_nxt : PySem.W.findIn K (.ref C) "next_answers" = some (some (.ref f_nxt)))
    (i_nxt : PySem.W.isFn K (.ref f_nxt) = true)
    (l_nxt : K.lookup f_nxt = some ⟨oc_nxt, od_nxt, .func (PySem.W.fnOf "next_answers" "Colours.next_answers" (defArgs cNext) (defBody cNext) (defScope cNext) .none kV_nxt dc_nxt pm_nxt an_nxt cd_nxt ct_nxt), sl_nxt⟩)
    (c_nxt : PySem.W.codeIn K cd_nxt "Colours.next_answers" = true)
    (k_nxt : PySem.W.keepIn K (.ref f_nxt) = true)
    (a_oi : PySem.W.findIn K (.ref C) "__init__" = some (some (.ref f_oi)))
    (i_oi : PySem.W.isFn K (.ref f_oi) = true)
    (l_oi : K.lookup f_oi = some ⟨oc_oi, od_oi, .func (PySem.W.fnX "__init__" "Colours.__init__" (defArgs cInit) (defBody cInit) (defScope cInit) [("__class__", cc_oi)] .none kV_oi dc_oi pm_oi an_oi (.ref cda_oi) ct_oi), sl_oi⟩)
    (c_oi : PySem.W.codeIn K (.ref cda_oi) "Colours.__init__" = true)
    (k_oi : PySem.W.keepIn K (.ref f_oi) = true)
    (cd_oi : K.lookup cda_oi = some ⟨ccl_oi, ccd_oi, .fields vs_oi, ccs_oi⟩)
    (v2_oi : vs_oi[2]? = some (.str file_oi tf_oi))
    (pf_oi : ((l.prog.main.file : Str) == file_oi) = true)
    (hc_oi : K.lookup cc_oi = some ⟨cl_oi, cld_oi, .cell (some (.ref C)), csl_oi⟩)
    (ci_oi : PySem.W.isClsIn K C = true)
    (ms_oi : PySem.W.mroIn K C (.ref C) = some true)
    (su_oi : PySem.W.ks_superIn K C C "__init__" = some (some (.ref f_wi)))
    (wt_oi : PySem.W.typeIn K (.ref f_wi) = some (.type "function"))
    (wf_oi : PySem.W.fnIn K f_wi = true)
    (pg_CR : PySem.W.plainGet K CR Str.empty = true)
    (hd_CR : PySem.W.hasDictIn K CR = true)
    (po_CR : PySem.W.plainOver K CR = true)
    (sa_CR : PySem.W.findIn K (.ref CR) "__setattr__" = some (some (.builtin "object.__setattr__")))
    (kc_CR : PySem.W.keepIn K (.ref CR) = true)
    (mk_CR : PySem.W.makesIn K CR = true)
    (ca_CR : PySem.W.findIn K (.ref CR) "__class__" = some (some (.builtin "object.__class__")))
    (mo_CR : PySem.W.mroIn K CR (.type "object") = some true)
    (no_CR_settings : PySem.W.findIn K (.ref CR) "settings" = some none)
    (a_ri : PySem.W.findIn K (.ref CR) "__init__" = some (some (.ref f_ri)))
    (i_ri : PySem.W.isFn K (.ref f_ri) = true)
    (l_ri : K.lookup f_ri = some ⟨oc_ri, od_ri, .func (PySem.W.fnOf "__init__" "Row.__init__" (defArgs rInit) (defBody rInit) (defScope rInit) .none kV_ri dc_ri pm_ri an_ri cd_ri ct_ri), sl_ri⟩)
    (c_ri : PySem.W.codeIn K cd_ri "Row.__init__" = true)
    (k_ri : PySem.W.keepIn K (.ref f_ri) = true)
    (pg_CW : PySem.W.plainGet K CW Str.empty = true)
    (hd_CW : PySem.W.hasDictIn K CW = true)
    (po_CW : PySem.W.plainOver K CW = true)
    (sa_CW : PySem.W.findIn K (.ref CW) "__setattr__" = some (some (.builtin "object.__setattr__")))
    (kc_CW : PySem.W.keepIn K (.ref CW) = true)
    (mk_CW : PySem.W.makesIn K CW = true)
    (ca_CW : PySem.W.findIn K (.ref CW) "__class__" = some (some (.builtin "object.__class__")))
    (mo_CW : PySem.W.mroIn K CW (.type "object") = some true)
    (no_CW_places : PySem.W.findIn K (.ref CW) "places" = some none)
    (no_CW_ties : PySem.W.findIn K (.ref CW) "ties" = some none)
    (no_CW_near : PySem.W.findIn K (.ref CW) "near" = some none)
    (a_bi : PySem.W.findIn K (.ref CW) "__init__" = some (some (.ref f_bi)))
    (i_bi : PySem.W.isFn K (.ref f_bi) = true)
    (l_bi : K.lookup f_bi = some ⟨oc_bi, od_bi, .func (PySem.W.fnOf "__init__" "Web.__init__" (defArgs bInit) (defBody bInit) (defScope bInit) .none kV_bi dc_bi pm_bi an_bi cd_bi ct_bi), sl_bi⟩)
    (c_bi : PySem.W.codeIn K cd_bi "Web.__init__" = true)
    (k_bi : PySem.W.keepIn K (.ref f_bi) = true)
    (a_wth : PySem.W.nsIn K mainGlobals "with_value" = some (some (.ref f_wth)))
    (l_wth : K.lookup f_wth = some ⟨oc_wth, od_wth, .func (PySem.W.fnOf "with_value" "with_value" (defArgs sWith) (defBody sWith) (defScope sWith) .none kV_wth dc_wth pm_wth an_wth cd_wth ct_wth), sl_wth⟩)
    (c_wth : PySem.W.codeIn K cd_wth "with_value" = true)
    (k_wth : PySem.W.keepIn K (.ref f_wth) = true)
    (a_chk : PySem.W.nsIn K mainGlobals "check_answer" = some (some (.ref f_chk)))
    (l_chk : K.lookup f_chk = some ⟨oc_chk, od_chk, .func (PySem.W.fnOf "check_answer" "check_answer" (defArgs sCheck) (defBody sCheck) (defScope sCheck) .none kV_chk dc_chk pm_chk an_chk cd_chk ct_chk), sl_chk⟩)
    (c_chk : PySem.W.codeIn K cd_chk "check_answer" = true)
    (k_chk : PySem.W.keepIn K (.ref f_chk) = true)
    (a_mst : PySem.W.nsIn K mainGlobals "most_beside" = some (some (.ref f_mst)))
    (l_mst : K.lookup f_mst = some ⟨oc_mst, od_mst, .func (PySem.W.fnOf "most_beside" "most_beside" (defArgs sMost) (defBody sMost) (defScope sMost) .none kV_mst dc_mst pm_mst an_mst cd_mst ct_mst), sl_mst⟩)
    (c_mst : PySem.W.codeIn K cd_mst "most_beside" = true)
    (k_mst : PySem.W.keepIn K (.ref f_mst) = true)
    (a_spr : PySem.W.nsIn K mainGlobals "spare_colour" = some (some (.ref f_spr)))
    (l_spr : K.lookup f_spr = some ⟨oc_spr, od_spr, .func (PySem.W.fnOf "spare_colour" "spare_colour" (defArgs sSpare) (defBody sSpare) (defScope sSpare) .none kV_spr dc_spr pm_spr an_spr cd_spr ct_spr), sl_spr⟩)
    (c_spr : PySem.W.codeIn K cd_spr "spare_colour" = true)
    (k_spr : PySem.W.keepIn K (.ref f_spr) = true)
    (a_lead : PySem.W.nsIn K mainGlobals "lead_many" = some (some (.ref f_lead)))
    (l_lead : K.lookup f_lead = some ⟨oc_lead, od_lead, .func (PySem.W.fnOf "lead_many" "lead_many" (defArgs sLead) (defBody sLead) (defScope sLead) .none kV_lead dc_lead pm_lead an_lead cd_lead ct_lead), sl_lead⟩)
    (c_lead : PySem.W.codeIn K cd_lead "lead_many" = true)
    (k_lead : PySem.W.keepIn K (.ref f_lead) = true)
    (a_prs : PySem.W.nsIn K mainGlobals "frozen_pairs" = some (some (.ref f_prs)))
    (l_prs : K.lookup f_prs = some ⟨oc_prs, od_prs, .func (PySem.W.fnOf "frozen_pairs" "frozen_pairs" (defArgs sPairs) (defBody sPairs) (defScope sPairs) .none kV_prs dc_prs pm_prs an_prs cd_prs ct_prs), sl_prs⟩)
    (c_prs : PySem.W.codeIn K cd_prs "frozen_pairs" = true)
    (k_prs : PySem.W.keepIn K (.ref f_prs) = true)
    (a_cell : PySem.W.nsIn K mainGlobals "_law_cell" = some (some (.ref f_cell)))
    (l_cell : K.lookup f_cell = some ⟨oc_cell, od_cell, .func (PySem.W.fnOf "_law_cell" "_law_cell" (defArgs sCell) (defBody sCell) (defScope sCell) .none kV_cell dc_cell pm_cell an_cell cd_cell ct_cell), sl_cell⟩)
    (c_cell : PySem.W.codeIn K cd_cell "_law_cell" = true)
    (k_cell : PySem.W.keepIn K (.ref f_cell) = true)
    (a_draw : PySem.W.nsIn K mainGlobals "_law_draw" = some (some (.ref f_draw)))
    (l_draw : K.lookup f_draw = some ⟨oc_draw, od_draw, .func (PySem.W.fnOf "_law_draw" "_law_draw" (defArgs sDraw) (defBody sDraw) (defScope sDraw) .none kV_draw dc_draw pm_draw an_draw cd_draw ct_draw), sl_draw⟩)
    (c_draw : PySem.W.codeIn K cd_draw "_law_draw" = true)
    (k_draw : PySem.W.keepIn K (.ref f_draw) = true)
    (a_int : PySem.W.nsIn K mainGlobals "_law_int" = some (some (.ref f_int)))
    (l_int : K.lookup f_int = some ⟨oc_int, od_int, .func (PySem.W.fnOf "_law_int" "_law_int" (defArgs sInt) (defBody sInt) (defScope sInt) .none kV_int dc_int pm_int an_int cd_int ct_int), sl_int⟩)
    (c_int : PySem.W.codeIn K cd_int "_law_int" = true)
    (k_int : PySem.W.keepIn K (.ref f_int) = true)
    (a_tup : PySem.W.nsIn K mainGlobals "_law_tuple" = some (some (.ref f_tup)))
    (l_tup : K.lookup f_tup = some ⟨oc_tup, od_tup, .func (PySem.W.fnOf "_law_tuple" "_law_tuple" (defArgs sTuple) (defBody sTuple) (defScope sTuple) .none kV_tup dc_tup pm_tup an_tup cd_tup ct_tup), sl_tup⟩)
    (c_tup : PySem.W.codeIn K cd_tup "_law_tuple" = true)
    (k_tup : PySem.W.keepIn K (.ref f_tup) = true)
    (a_bes : PySem.W.nsIn K mainGlobals "_law_beside" = some (some (.ref f_bes)))
    (l_bes : K.lookup f_bes = some ⟨oc_bes, od_bes, .func (PySem.W.fnOf "_law_beside" "_law_beside" (defArgs sBeside) (defBody sBeside) (defScope sBeside) .none kV_bes dc_bes pm_bes an_bes cd_bes ct_bes), sl_bes⟩)
    (c_bes : PySem.W.codeIn K cd_bes "_law_beside" = true)
    (k_bes : PySem.W.keepIn K (.ref f_bes) = true)
    (a_tie : PySem.W.nsIn K mainGlobals "_law_ties" = some (some (.ref f_tie)))
    (l_tie : K.lookup f_tie = some ⟨oc_tie, od_tie, .func (PySem.W.fnOf "_law_ties" "_law_ties" (defArgs sTies) (defBody sTies) (defScope sTies) .none kV_tie dc_tie pm_tie an_tie cd_tie ct_tie), sl_tie⟩)
    (c_tie : PySem.W.codeIn K cd_tie "_law_ties" = true)
    (k_tie : PySem.W.keepIn K (.ref f_tie) = true)
    (a_col : PySem.W.nsIn K mainGlobals "_law_colouring" = some (some (.ref f_col)))
    (l_col : K.lookup f_col = some ⟨oc_col, od_col, .func (PySem.W.fnOf "_law_colouring" "_law_colouring" (defArgs sColouring) (defBody sColouring) (defScope sColouring) .none kV_col dc_col pm_col an_col cd_col ct_col), sl_col⟩)
    (c_col : PySem.W.codeIn K cd_col "_law_colouring" = true)
    (k_col : PySem.W.keepIn K (.ref f_col) = true)
    (a_put : PySem.W.nsIn K mainGlobals "_law_put" = some (some (.ref f_put)))
    (l_put : K.lookup f_put = some ⟨oc_put, od_put, .func (PySem.W.fnOf "_law_put" "_law_put" (defArgs sPut) (defBody sPut) (defScope sPut) .none kV_put dc_put pm_put an_put cd_put ct_put), sl_put⟩)
    (c_put : PySem.W.codeIn K cd_put "_law_put" = true)
    (k_put : PySem.W.keepIn K (.ref f_put) = true)
    (a_spl : PySem.W.nsIn K mainGlobals "_law_spoilt" = some (some (.ref f_spl)))
    (l_spl : K.lookup f_spl = some ⟨oc_spl, od_spl, .func (PySem.W.fnOf "_law_spoilt" "_law_spoilt" (defArgs sSpoilt) (defBody sSpoilt) (defScope sSpoilt) .none kV_spl dc_spl pm_spl an_spl cd_spl ct_spl), sl_spl⟩)
    (c_spl : PySem.W.codeIn K cd_spl "_law_spoilt" = true)
    (k_spl : PySem.W.keepIn K (.ref f_spl) = true)
    (a_cld : PySem.W.nsIn K mainGlobals "_law_coloured" = some (some (.ref f_cld)))
    (l_cld : K.lookup f_cld = some ⟨oc_cld, od_cld, .func (PySem.W.fnOf "_law_coloured" "_law_coloured" (defArgs sColoured) (defBody sColoured) (defScope sColoured) .none kV_cld dc_cld pm_cld an_cld cd_cld ct_cld), sl_cld⟩)
    (c_cld : PySem.W.codeIn K cd_cld "_law_coloured" = true)
    (k_cld : PySem.W.keepIn K (.ref f_cld) = true)
    (a_row : PySem.W.nsIn K mainGlobals "_law_row_stands" = some (some (.ref f_row)))
    (l_row : K.lookup f_row = some ⟨oc_row, od_row, .func (PySem.W.fnOf "_law_row_stands" "_law_row_stands" (defArgs sRow) (defBody sRow) (defScope sRow) .none kV_row dc_row pm_row an_row cd_row ct_row), sl_row⟩)
    (c_row : PySem.W.codeIn K cd_row "_law_row_stands" = true)
    (k_row : PySem.W.keepIn K (.ref f_row) = true)
    (a_ref : PySem.W.nsIn K mainGlobals "_law_refused" = some (some (.ref f_ref)))
    (l_ref : K.lookup f_ref = some ⟨oc_ref, od_ref, .func (PySem.W.fnOf "_law_refused" "_law_refused" (defArgs sRefused) (defBody sRefused) (defScope sRefused) .none kV_ref dc_ref pm_ref an_ref cd_ref ct_ref), sl_ref⟩)
    (c_ref : PySem.W.codeIn K cd_ref "_law_refused" = true)
    (k_ref : PySem.W.keepIn K (.ref f_ref) = true)
    (a_pre : PySem.W.nsIn K mainGlobals "_law_pairs_refused" = some (some (.ref f_pre)))
    (l_pre : K.lookup f_pre = some ⟨oc_pre, od_pre, .func (PySem.W.fnOf "_law_pairs_refused" "_law_pairs_refused" (defArgs sPairsRef) (defBody sPairsRef) (defScope sPairsRef) .none kV_pre dc_pre pm_pre an_pre cd_pre ct_pre), sl_pre⟩)
    (c_pre : PySem.W.codeIn K cd_pre "_law_pairs_refused" = true)
    (k_pre : PySem.W.keepIn K (.ref f_pre) = true)
    (a_pst : PySem.W.nsIn K mainGlobals "_law_pairs_stand" = some (some (.ref f_pst)))
    (l_pst : K.lookup f_pst = some ⟨oc_pst, od_pst, .func (PySem.W.fnOf "_law_pairs_stand" "_law_pairs_stand" (defArgs sPairsSt) (defBody sPairsSt) (defScope sPairsSt) .none kV_pst dc_pst pm_pst an_pst cd_pst ct_pst), sl_pst⟩)
    (c_pst : PySem.W.codeIn K cd_pst "_law_pairs_stand" = true)
    (k_pst : PySem.W.keepIn K (.ref f_pst) = true)
    (a_law : PySem.W.nsIn K mainGlobals "law" = some (some (.ref f_law)))
    (l_law : K.lookup f_law = some ⟨oc_law, od_law, .func (PySem.W.fnOf "law" "law" (defArgs sLaw) (defBody sLaw) (defScope sLaw) .none kV_law dc_law pm_law an_law cd_law ct_law), sl_law⟩)
    (c_law : PySem.W.codeIn K cd_law "law" = true)
    (k_law : PySem.W.keepIn K (.ref f_law) = true)
    (z_len : PySem.W.nsIn K mainGlobals "len" = some none)
    (z_int : PySem.W.nsIn K mainGlobals "int" = some none)
    (z_tuple : PySem.W.nsIn K mainGlobals "tuple" = some none)
    (z_range : PySem.W.nsIn K mainGlobals "range" = some none)
    (z_list : PySem.W.nsIn K mainGlobals "list" = some none)
    (z_enumerate : PySem.W.nsIn K mainGlobals "enumerate" = some none)
    (z_isinstance : PySem.W.nsIn K mainGlobals "isinstance" = some none)
    (z_bool : PySem.W.nsIn K mainGlobals "bool" = some none)
    (z_all : PySem.W.nsIn K mainGlobals "all" = some none)
    (z_any : PySem.W.nsIn K mainGlobals "any" = some none)
    (z_min : PySem.W.nsIn K mainGlobals "min" = some none)
    (z_max : PySem.W.nsIn K mainGlobals "max" = some none)
    (z_sorted : PySem.W.nsIn K mainGlobals "sorted" = some none)
    (z_set : PySem.W.nsIn K mainGlobals "set" = some none)
    (z_super : PySem.W.nsIn K mainGlobals "super" = some none)
    (z_ValueError : PySem.W.nsIn K mainGlobals "ValueError" = some none)
    (tp : (l.prog.main.scope.names.lookup ("super" : Str)).isSome = false)
    (thr : PySem.W.nsIn K PySem.cStatics "thirdparty.any" = some none)
    (x_CB : K.lookup CB = some (excClassObj nm_CB qn_CB CB N_CB bs_CB [.ref CS, .type "ValueError", .type "Exception", .type "BaseException", .type "object"] true sn_CB su_CB ab_CB col_CB dd_CB m0_CB m1_CB m2_CB m3_CB m5_CB "ValueError.__new__"))
    (sa_CB : PySem.W.findIn K (.ref CB) "__setattr__" = some (some (.builtin "object.__setattr__")))
    (eb_CB : PySem.W.subIn K (.ref CB) (.type "BaseException") = some true)
    (ty_CB : PySem.W.typeIn K (.ref CB) = some (.type "type"))
    (kc_CB : PySem.W.keepIn K (.ref CB) = true)
    (ms_CB : PySem.W.mroIn K CB (.ref CB) = some true)
    (su_CB : PySem.W.ks_superIn K CB CB "__init__" = some (some (.builtin "ValueError.__init__")))
    (ve_CB : PySem.W.subIn K (.ref CB) (.type "ValueError") = some true)
    (ci_CB : PySem.W.isClsIn K CB = true)
    (a_CB : PySem.W.findIn K (.ref CB) "__init__" = some (some (.ref f_CB)))
    (t_CB : PySem.W.typeIn K (.ref f_CB) = some (.type "function"))
    (l_CB : K.lookup f_CB = some ⟨oc_CB, od_CB, .func (PySem.W.fnX "__init__" "BadWorld.__init__" (defArgs eB) (defBody eB) (Sup.scOf (defScope eB).names) [("__class__", cc_CB)] .none kV_CB dc_CB pm_CB an_CB (.ref cda_CB) ct_CB), sl_CB⟩)
    (c_CB : PySem.W.codeIn K (.ref cda_CB) "BadWorld.__init__" = true)
    (cd_CB : K.lookup cda_CB = some ⟨ccl_CB, ccd_CB, .fields vs_CB, ccs_CB⟩)
    (v2_CB : vs_CB[2]? = some (.str file_CB tf_CB))
    (pf_CB : ((l.prog.main.file : Str) == file_CB) = true)
    (hc_CB : K.lookup cc_CB = some ⟨cl_CB, cld_CB, .cell (some (.ref CB)), csl_CB⟩)
    (no_CB_index : PySem.W.findIn K (.ref CB) "index" = some none)
    (ga_CB : PySem.W.findIn K (.ref CB) "__getattribute__" = some (some (.builtin "BaseException.__getattribute__")))
    (gg_CB : PySem.W.findIn K (.ref CB) "__getattr__" = some none)
    (hd_CB : PySem.W.hasDictIn K CB = true)
    (ca_CB : PySem.W.findIn K (.ref CB) "__class__" = some (some (.builtin "object.__class__")))
    (mo_CB : PySem.W.mroIn K CB (.type "object") = some true)
    (x_CF : K.lookup CF = some (excClassObj nm_CF qn_CF CF N_CF bs_CF [.ref CS, .type "ValueError", .type "Exception", .type "BaseException", .type "object"] true sn_CF su_CF ab_CF col_CF dd_CF m0_CF m1_CF m2_CF m3_CF m5_CF "ValueError.__new__"))
    (sa_CF : PySem.W.findIn K (.ref CF) "__setattr__" = some (some (.builtin "object.__setattr__")))
    (eb_CF : PySem.W.subIn K (.ref CF) (.type "BaseException") = some true)
    (ty_CF : PySem.W.typeIn K (.ref CF) = some (.type "type"))
    (kc_CF : PySem.W.keepIn K (.ref CF) = true)
    (ms_CF : PySem.W.mroIn K CF (.ref CF) = some true)
    (su_CF : PySem.W.ks_superIn K CF CF "__init__" = some (some (.builtin "ValueError.__init__")))
    (ve_CF : PySem.W.subIn K (.ref CF) (.type "ValueError") = some true)
    (ci_CF : PySem.W.isClsIn K CF = true)
    (a_CF : PySem.W.findIn K (.ref CF) "__init__" = some (some (.ref f_CF)))
    (t_CF : PySem.W.typeIn K (.ref f_CF) = some (.type "function"))
    (l_CF : K.lookup f_CF = some ⟨oc_CF, od_CF, .func (PySem.W.fnX "__init__" "TooFew.__init__" (defArgs eF) (defBody eF) (Sup.scOf (defScope eF).names) [("__class__", cc_CF)] .none kV_CF dc_CF pm_CF an_CF (.ref cda_CF) ct_CF), sl_CF⟩)
    (c_CF : PySem.W.codeIn K (.ref cda_CF) "TooFew.__init__" = true)
    (cd_CF : K.lookup cda_CF = some ⟨ccl_CF, ccd_CF, .fields vs_CF, ccs_CF⟩)
    (v2_CF : vs_CF[2]? = some (.str file_CF tf_CF))
    (pf_CF : ((l.prog.main.file : Str) == file_CF) = true)
    (hc_CF : K.lookup cc_CF = some ⟨cl_CF, cld_CF, .cell (some (.ref CF)), csl_CF⟩)
    (no_CF_needed : PySem.W.findIn K (.ref CF) "needed" = some none)
    (ga_CF : PySem.W.findIn K (.ref CF) "__getattribute__" = some (some (.builtin "BaseException.__getattribute__")))
    (gg_CF : PySem.W.findIn K (.ref CF) "__getattr__" = some none)
    (hd_CF : PySem.W.hasDictIn K CF = true)
    (ca_CF : PySem.W.findIn K (.ref CF) "__class__" = some (some (.builtin "object.__class__")))
    (mo_CF : PySem.W.mroIn K CF (.type "object") = some true)
    (x_CN : K.lookup CN = some (excClassObj nm_CN qn_CN CN N_CN bs_CN [.ref CS, .type "ValueError", .type "Exception", .type "BaseException", .type "object"] true sn_CN su_CN ab_CN col_CN dd_CN m0_CN m1_CN m2_CN m3_CN m5_CN "ValueError.__new__"))
    (sa_CN : PySem.W.findIn K (.ref CN) "__setattr__" = some (some (.builtin "object.__setattr__")))
    (eb_CN : PySem.W.subIn K (.ref CN) (.type "BaseException") = some true)
    (ty_CN : PySem.W.typeIn K (.ref CN) = some (.type "type"))
    (kc_CN : PySem.W.keepIn K (.ref CN) = true)
    (ms_CN : PySem.W.mroIn K CN (.ref CN) = some true)
    (su_CN : PySem.W.ks_superIn K CN CN "__init__" = some (some (.builtin "ValueError.__init__")))
    (ve_CN : PySem.W.subIn K (.ref CN) (.type "ValueError") = some true)
    (ci_CN : PySem.W.isClsIn K CN = true)
    (a_CN : PySem.W.findIn K (.ref CN) "__init__" = some (some (.ref f_CN)))
    (t_CN : PySem.W.typeIn K (.ref f_CN) = some (.type "function"))
    (l_CN : K.lookup f_CN = some ⟨oc_CN, od_CN, .func (PySem.W.fnX "__init__" "NotAnAnswer.__init__" (defArgs eN) (defBody eN) (Sup.scOf (defScope eN).names) [("__class__", cc_CN)] .none kV_CN dc_CN pm_CN an_CN (.ref cda_CN) ct_CN), sl_CN⟩)
    (c_CN : PySem.W.codeIn K (.ref cda_CN) "NotAnAnswer.__init__" = true)
    (cd_CN : K.lookup cda_CN = some ⟨ccl_CN, ccd_CN, .fields vs_CN, ccs_CN⟩)
    (v2_CN : vs_CN[2]? = some (.str file_CN tf_CN))
    (pf_CN : ((l.prog.main.file : Str) == file_CN) = true)
    (hc_CN : K.lookup cc_CN = some ⟨cl_CN, cld_CN, .cell (some (.ref CN)), csl_CN⟩)
    (no_CN_setting : PySem.W.findIn K (.ref CN) "setting" = some none)
    (ga_CN : PySem.W.findIn K (.ref CN) "__getattribute__" = some (some (.builtin "BaseException.__getattribute__")))
    (gg_CN : PySem.W.findIn K (.ref CN) "__getattr__" = some none)
    (hd_CN : PySem.W.hasDictIn K CN = true)
    (ca_CN : PySem.W.findIn K (.ref CN) "__class__" = some (some (.builtin "object.__class__")))
    (mo_CN : PySem.W.mroIn K CN (.type "object") = some true)
    (g_MOST_PLACES : PySem.W.nsIn K mainGlobals "MOST_PLACES" = some (some (.int 24 t_MOST_PLACES)))
    (g_MOST_TIES : PySem.W.nsIn K mainGlobals "MOST_TIES" = some (some (.int 60 t_MOST_TIES)))
    (q_bF : PySem.W.kitOne K (.ref CB) (.ref CF) = some false)
    (q_bN : PySem.W.kitOne K (.ref CB) (.ref CN) = some false)
    (q_bS : PySem.W.kitOne K (.ref CB) (.ref CS) = some true)
    (q_bV : PySem.W.kitOne K (.ref CB) (.type "ValueError") = some true)
    (q_fN : PySem.W.kitOne K (.ref CF) (.ref CN) = some false)
    (q_fS : PySem.W.kitOne K (.ref CF) (.ref CS) = some true)
    (q_fV : PySem.W.kitOne K (.ref CF) (.type "ValueError") = some true)
    (q_nS : PySem.W.kitOne K (.ref CN) (.ref CS) = some true)
    (q_nV : PySem.W.kitOne K (.ref CN) (.type "ValueError") = some true)
    (e_BB : PySem.W.exmOne K (.ref CB) (.ref CB) = some true)
    (e_FB : PySem.W.exmOne K (.ref CF) (.ref CB) = some false)
    (e_FF : PySem.W.exmOne K (.ref CF) (.ref CF) = some true)
    (e_NB : PySem.W.exmOne K (.ref CN) (.ref CB) = some false)
    (e_NF : PySem.W.exmOne K (.ref CN) (.ref CF) = some false)
    (e_NN : PySem.W.exmOne K (.ref CN) (.ref CN) = some true) :
    ∃ fd : FuncData, (∀ (s : Shared) (v : Value), BindsTo s fd ⟨[v], []⟩ [("script", v)]) ∧ ∀ base : Heap, K.In base → base.Ns mainGlobals mg → FnOk l.prog w K mg base (L2N.CX l.prog w) 9 fa fd ["script"] (mkSp K pLaw) := by
  have e := hfa.symm.trans (PySem.W.mg_of X G a_law)
  cases e
  have g_CS : mg "StepError" = some (.ref CS) := PySem.W.mg_of X G n_CS
  have g_CB : mg "BadWorld" = some (.ref CB) := PySem.W.mg_of X G n_CB
  have g_CF : mg "TooFew" = some (.ref CF) := PySem.W.mg_of X G n_CF
  have g_CN : mg "NotAnAnswer" = some (.ref CN) := PySem.W.mg_of X G n_CN
  have g_CV : mg "World" = some (.ref CV) := PySem.W.mg_of X G n_CV
  have g_C : mg "Colours" = some (.ref C) := PySem.W.mg_of X G n_C
  have g_CR : mg "Row" = some (.ref CR) := PySem.W.mg_of X G n_CR
  have g_CW : mg "Web" = some (.ref CW) := PySem.W.mg_of X G n_CW
  have F_wi := fun_mk (st := wInit) l_wi c_wi k_wi
  have b_wi := F_wi.binds (ps := ["self", "size"]) fun _ _ _ _ _ _ us hl => match us, hl with | [_, _], _ => rfl
  have V_C_MOST_PLACES : ∃ u, ClX.CVal K C (.type "type") "MOST_PLACES" (.int 14) u := ⟨_, cv_C_MOST_PLACES, ⟨_, rfl⟩⟩
  have V_C_MOST_COLOURS : ∃ u, ClX.CVal K C (.type "type") "MOST_COLOURS" (.int 8) u := ⟨_, cv_C_MOST_COLOURS, ⟨_, rfl⟩⟩
  have Cl_C : Cls K C := ⟨pg_C, hd_C, po_C, sa_C⟩
  have Is_C : IsC K C := ⟨Cl_C, ca_C, oc0, oc1, mo_C⟩
  have F_ans := fun_mk (st := cIsAns) l_ans c_ans k_ans
  have b_ans := F_ans.binds (ps := ["self", "setting"]) fun _ _ _ _ _ _ us hl => match us, hl with | [_, _], _ => rfl
  have F_nxt := fun_mk (st := cNext) l_nxt c_nxt k_nxt
  have b_nxt := F_nxt.binds (ps := ["self", "setting"]) fun _ _ _ _ _ _ us hl => match us, hl with | [_, _], _ => rfl
  have Cl_CR : Cls K CR := ⟨pg_CR, hd_CR, po_CR, sa_CR⟩
  have Is_CR : IsC K CR := ⟨Cl_CR, ca_CR, oc0, oc1, mo_CR⟩
  have F_ri := fun_mk (st := rInit) l_ri c_ri k_ri
  have b_ri := F_ri.binds (ps := ["self", "settings"]) fun _ _ _ _ _ _ us hl => match us, hl with | [_, _], _ => rfl
  have Cl_CW : Cls K CW := ⟨pg_CW, hd_CW, po_CW, sa_CW⟩
  have Is_CW : IsC K CW := ⟨Cl_CW, ca_CW, oc0, oc1, mo_CW⟩
  have F_bi := fun_mk (st := bInit) l_bi c_bi k_bi
  have b_bi := F_bi.binds (ps := ["self", "places", "ties"]) fun _ _ _ _ _ _ us hl => match us, hl with | [_, _, _], _ => rfl
  have F_wth := fun_mk (st := sWith) l_wth c_wth k_wth
  have b_wth := F_wth.binds (ps := ["setting", "position", "value"]) fun _ _ _ _ _ _ us hl => match us, hl with | [_, _, _], _ => rfl
  have F_chk := fun_mk (st := sCheck) l_chk c_chk k_chk
  have b_chk := F_chk.binds (ps := ["world", "setting"]) fun _ _ _ _ _ _ us hl => match us, hl with | [_, _], _ => rfl
  have F_mst := fun_mk (st := sMost) l_mst c_mst k_mst
  have b_mst := F_mst.binds (ps := ["web"]) fun _ _ _ _ _ _ us hl => match us, hl with | [_], _ => rfl
  have F_spr := fun_mk (st := sSpare) l_spr c_spr k_spr
  have b_spr := F_spr.binds (ps := ["web", "colours", "setting", "place", "barred"]) fun _ _ _ _ _ _ us hl => match us, hl with | [_, _, _, _, _], _ => rfl
  have F_lead := fun_mk (st := sLead) l_lead c_lead k_lead
  have b_lead := F_lead.binds (ps := ["web", "colours", "start", "goal"]) fun _ _ _ _ _ _ us hl => match us, hl with | [_, _, _, _], _ => rfl
  have F_prs := fun_mk (st := sPairs) l_prs c_prs k_prs
  have b_prs := F_prs.binds (ps := ["n"]) fun _ _ _ _ _ _ us hl => match us, hl with | [_], _ => rfl
  have F_cell := fun_mk (st := sCell) l_cell c_cell k_cell
  have b_cell := F_cell.binds (ps := ["script", "k"]) fun _ _ _ _ _ _ us hl => match us, hl with | [_, _], _ => rfl
  have F_draw := fun_mk (st := sDraw) l_draw c_draw k_draw
  have b_draw := F_draw.binds (ps := ["cell", "bases"]) fun _ _ _ _ _ _ us hl => match us, hl with | [_, _], _ => rfl
  have F_int := fun_mk (st := sInt) l_int c_int k_int
  have b_int := F_int.binds (ps := ["actual", "expected"]) fun _ _ _ _ _ _ us hl => match us, hl with | [_, _], _ => rfl
  have F_tup := fun_mk (st := sTuple) l_tup c_tup k_tup
  have b_tup := F_tup.binds (ps := ["actual", "expected"]) fun _ _ _ _ _ _ us hl => match us, hl with | [_, _], _ => rfl
  have F_bes := fun_mk (st := sBeside) l_bes c_bes k_bes
  have b_bes := F_bes.binds (ps := ["place", "ties"]) fun _ _ _ _ _ _ us hl => match us, hl with | [_, _], _ => rfl
  have F_tie := fun_mk (st := sTies) l_tie c_tie k_tie
  have b_tie := F_tie.binds (ps := ["cell", "places", "count", "cap"]) fun _ _ _ _ _ _ us hl => match us, hl with | [_, _, _, _], _ => rfl
  have F_col := fun_mk (st := sColouring) l_col c_col k_col
  have b_col := F_col.binds (ps := ["cell", "places", "ties", "colours"]) fun _ _ _ _ _ _ us hl => match us, hl with | [_, _, _, _], _ => rfl
  have F_put := fun_mk (st := sPut) l_put c_put k_put
  have b_put := F_put.binds (ps := ["setting", "at", "value"]) fun _ _ _ _ _ _ us hl => match us, hl with | [_, _, _], _ => rfl
  have F_spl := fun_mk (st := sSpoilt) l_spl c_spl k_spl
  have b_spl := F_spl.binds (ps := ["setting", "ties", "colours", "choice", "at"]) fun _ _ _ _ _ _ us hl => match us, hl with | [_, _, _, _, _], _ => rfl
  have F_cld := fun_mk (st := sColoured) l_cld c_cld k_cld
  have b_cld := F_cld.binds (ps := ["setting", "places", "ties", "colours"]) fun _ _ _ _ _ _ us hl => match us, hl with | [_, _, _, _], _ => rfl
  have F_row := fun_mk (st := sRow) l_row c_row k_row
  have b_row := F_row.binds (ps := ["row", "start", "goal", "ties", "colours"]) fun _ _ _ _ _ _ us hl => match us, hl with | [_, _, _, _, _], _ => rfl
  have F_ref := fun_mk (st := sRefused) l_ref c_ref k_ref
  have b_ref := F_ref.binds (ps := ["web", "colours", "start", "goal", "word", "due"]) fun _ _ _ _ _ _ us hl => match us, hl with | [_, _, _, _, _, _], _ => rfl
  have F_pre := fun_mk (st := sPairsRef) l_pre c_pre k_pre
  have b_pre := F_pre.binds (ps := ["n"]) fun _ _ _ _ _ _ us hl => match us, hl with | [_], _ => rfl
  have F_pst := fun_mk (st := sPairsSt) l_pst c_pst k_pst
  have b_pst := F_pst.binds (ps := ["n"]) fun _ _ _ _ _ _ us hl => match us, hl with | [_], _ => rfl
  have F_law := fun_mk (st := sLaw) l_law c_law k_law
  have b_law := F_law.binds (ps := ["script"]) fun _ _ _ _ _ _ us hl => match us, hl with | [_], _ => rfl
  have m_len : mg "len" = none := PySem.W.mg_none_of X G z_len
  have m_int : mg "int" = none := PySem.W.mg_none_of X G z_int
  have m_tuple : mg "tuple" = none := PySem.W.mg_none_of X G z_tuple
  have m_range : mg "range" = none := PySem.W.mg_none_of X G z_range
  have m_list : mg "list" = none := PySem.W.mg_none_of X G z_list
  have m_enumerate : mg "enumerate" = none := PySem.W.mg_none_of X G z_enumerate
  have m_isinstance : mg "isinstance" = none := PySem.W.mg_none_of X G z_isinstance
  have m_bool : mg "bool" = none := PySem.W.mg_none_of X G z_bool
  have m_all : mg "all" = none := PySem.W.mg_none_of X G z_all
  have m_any : mg "any" = none := PySem.W.mg_none_of X G z_any
  have m_min : mg "min" = none := PySem.W.mg_none_of X G z_min
  have m_max : mg "max" = none := PySem.W.mg_none_of X G z_max
  have m_sorted : mg "sorted" = none := PySem.W.mg_none_of X G z_sorted
  have m_set : mg "set" = none := PySem.W.mg_none_of X G z_set
  have m_super : mg "super" = none := PySem.W.mg_none_of X G z_super
  have m_ValueError : mg "ValueError" = none := PySem.W.mg_none_of X G z_ValueError
  have Ef_CB : ErrF l.prog K mg CB cda_CB cc_CB := ⟨⟨⟨_, _, _, _, _, _, _, _, _, _, _, _, _, _, _, x_CB, by rfl⟩, sa_CB, eb_CB, ty_CB, kc_CB⟩, ms_CB, su_CB, ve_CB, ⟨_, _, _, _, _, _, cd_CB, v2_CB, pf_CB⟩, tp, m_super, ci_CB, thr, ⟨_, _, _, hc_CB⟩⟩
  have Xc_CB : XcE K CB := ⟨⟨ga_CB, gg_CB, eb_CB, hd_CB⟩, ci_CB, ca_CB, oc0, oc1, mo_CB⟩
  have X_CB : Sup.Ex1 l.prog K mg "BadWorld" "index" CB := err1 (txt := "not a world") Ef_CB g_CB a_CB t_CB l_CB c_CB (NdefX.nscope_by (by decide +kernel)) (by decide +kernel) ⟨_, _, _, _, _, _, _, _, _, _, _, fun env => ⟨_, rfl⟩, rfl⟩ ⟨_, rfl, rfl⟩ no_CB_index (fun us hl => match us, hl with | [_, _], _ => rfl)
  have Ef_CF : ErrF l.prog K mg CF cda_CF cc_CF := ⟨⟨⟨_, _, _, _, _, _, _, _, _, _, _, _, _, _, _, x_CF, by rfl⟩, sa_CF, eb_CF, ty_CF, kc_CF⟩, ms_CF, su_CF, ve_CF, ⟨_, _, _, _, _, _, cd_CF, v2_CF, pf_CF⟩, tp, m_super, ci_CF, thr, ⟨_, _, _, hc_CF⟩⟩
  have Xc_CF : XcE K CF := ⟨⟨ga_CF, gg_CF, eb_CF, hd_CF⟩, ci_CF, ca_CF, oc0, oc1, mo_CF⟩
  have X_CF : Sup.Ex1 l.prog K mg "TooFew" "needed" CF := err1 (txt := "more colours are needed") Ef_CF g_CF a_CF t_CF l_CF c_CF (NdefX.nscope_by (by decide +kernel)) (by decide +kernel) ⟨_, _, _, _, _, _, _, _, _, _, _, fun env => ⟨_, rfl⟩, rfl⟩ ⟨_, rfl, rfl⟩ no_CF_needed (fun us hl => match us, hl with | [_, _], _ => rfl)
  have Ef_CN : ErrF l.prog K mg CN cda_CN cc_CN := ⟨⟨⟨_, _, _, _, _, _, _, _, _, _, _, _, _, _, _, x_CN, by rfl⟩, sa_CN, eb_CN, ty_CN, kc_CN⟩, ms_CN, su_CN, ve_CN, ⟨_, _, _, _, _, _, cd_CN, v2_CN, pf_CN⟩, tp, m_super, ci_CN, thr, ⟨_, _, _, hc_CN⟩⟩
  have Xc_CN : XcE K CN := ⟨⟨ga_CN, gg_CN, eb_CN, hd_CN⟩, ci_CN, ca_CN, oc0, oc1, mo_CN⟩
  have X_CN : Sup.Ex1 l.prog K mg "NotAnAnswer" "setting" CN := err1 (txt := "the setting is not an answer") Ef_CN g_CN a_CN t_CN l_CN c_CN (NdefX.nscope_by (by decide +kernel)) (by decide +kernel) ⟨_, _, _, _, _, _, _, _, _, _, _, fun env => ⟨_, rfl⟩, rfl⟩ ⟨_, rfl, rfl⟩ no_CN_setting (fun us hl => match us, hl with | [_, _], _ => rfl)
  have m_MOST_PLACES : mg "MOST_PLACES" = some (.int 24 t_MOST_PLACES) := PySem.W.mg_of X G g_MOST_PLACES
  have m_MOST_TIES : mg "MOST_TIES" = some (.int 60 t_MOST_TIES) := PySem.W.mg_of X G g_MOST_TIES
  have S_oi : Sup.SupAt l.prog K mg f_oi cda_oi cc_oi C _ "self" := ⟨⟨_, _, _, l_oi⟩, ⟨_, rfl, rfl⟩, ⟨_, _, _, _, _, _, cd_oi, v2_oi, pf_oi⟩, tp, m_super, Option.isSome_iff_exists.mp ci_oi, thr⟩
  have SI_oi : Sup.SupI K C C f_wi := ⟨Option.isSome_iff_exists.mp ci_oi, ms_oi, su_oi, wt_oi, wf_oi⟩
  have T : Bi mg := ⟨m_len, m_int, m_tuple, m_range, m_list, m_enumerate, m_isinstance, m_bool, m_all, m_any, m_min, m_max, m_sorted, m_set, m_ValueError⟩
  have R : ColT K C := ⟨Cl_C, no_C_size, no_C_web, no_C_colours⟩
  have RR : RowT K CR := ⟨Cl_CR, no_CR_settings⟩
  have B : WebT K CW := ⟨Cl_CW, no_CW_places, no_CW_ties, no_CW_near⟩
  have WG : WebG mg := ⟨⟨_, m_MOST_PLACES⟩, ⟨_, m_MOST_TIES⟩⟩
  have Er : ErrO K mg CS CB CF CN := ⟨g_CS, g_CB, g_CF, g_CN, m_ValueError, Xc_CB, Xc_CF, Xc_CN, no_CB_index, no_CF_needed, no_CN_setting, q_bF, q_bN, q_bS, q_bV, q_fN, q_fS, q_fV, q_nS, q_nV, e_BB, e_FB, e_FF, e_NB, e_NF, e_NN⟩
  have Co : ColG l.prog K mg C CB f_oi f_wi cda_oi cc_oi _ := ⟨S_oi, SI_oi, X_CB, g_C, ⟨rd_C, rg_C⟩, V_C_MOST_PLACES, V_C_MOST_COLOURS⟩
  refine ⟨PySem.W.fnOf "law" "law" (defArgs sLaw) (defBody sLaw) (defScope sLaw) .none kV_law dc_law pm_law an_law cd_law ct_law, fun s v => .of_eq rfl, fun base _ _ => ?_⟩
  have G_cell : FnG l.prog w K mg base "_law_cell" 1 ["script", "k"] (pCell) := ⟨_, _, ok_cell F_cell T, PySem.W.mg_of X G a_cell, k_cell, b_cell⟩
  have G_draw : FnG l.prog w K mg base "_law_draw" 1 ["cell", "bases"] (pDraw) := ⟨_, _, ok_draw F_draw T, PySem.W.mg_of X G a_draw, k_draw, b_draw⟩
  have G_int : FnG l.prog w K mg base "_law_int" 1 ["actual", "expected"] (pInt) := ⟨_, _, ok_int F_int T, PySem.W.mg_of X G a_int, k_int, b_int⟩
  have G_tup : FnG l.prog w K mg base "_law_tuple" 2 ["actual", "expected"] (pTuple) := ⟨_, _, ok_tuple F_tup T G_int, PySem.W.mg_of X G a_tup, k_tup, b_tup⟩
  have H_int : FnGH l.prog w K mg base "_law_int" 1 ["actual", "expected"] pInt := ⟨_, _, ok_intH F_int T, PySem.W.mg_of X G a_int, k_int, b_int⟩
  have H_tup : FnGH l.prog w K mg base "_law_tuple" 2 ["actual", "expected"] pTuple := ⟨_, _, ok_tupleH F_tup T H_int, PySem.W.mg_of X G a_tup, k_tup, b_tup⟩
  have G_wth : FnG l.prog w K mg base "with_value" 1 ["setting", "position", "value"] (pPut) := ⟨_, _, ok_with F_wth , PySem.W.mg_of X G a_wth, k_wth, b_wth⟩
  have G_put : FnG l.prog w K mg base "_law_put" 1 ["setting", "at", "value"] (pPut) := ⟨_, _, ok_put F_put , PySem.W.mg_of X G a_put, k_put, b_put⟩
  have G_mst : FnG l.prog w K mg base "most_beside" 1 ["web"] (pMost CW) := ⟨_, _, ok_most F_mst T B, PySem.W.mg_of X G a_mst, k_mst, b_mst⟩
  have G_spr : FnG l.prog w K mg base "spare_colour" 1 ["web", "colours", "setting", "place", "barred"] (pSpare CW) := ⟨_, _, ok_spare F_spr T B, PySem.W.mg_of X G a_spr, k_spr, b_spr⟩
  have M_ans : MtG l.prog w K mg base C "is_answer" 2 ["self", "setting"] (pIsAns C CW) := ⟨_, _, ok_isAns F_ans T R B, ⟨a_ans, i_ans, k_ans⟩, b_ans⟩
  have M_nxt : MtG l.prog w K mg base C "next_answers" 2 ["self", "setting"] (pNext C CW) := ⟨_, _, ok_next F_nxt T R B, ⟨a_nxt, i_nxt, k_nxt⟩, b_nxt⟩
  have MR : ClG l.prog w K mg base "Row" CR 3 ["self", "settings"] (pRow CR) := ⟨_, _, ok_rinit F_ri T RR, ⟨mk_CR, a_ri, i_ri, kc_CR⟩, g_CR, b_ri⟩
  have MW : ClG l.prog w K mg base "Web" CW 3 ["self", "places", "ties"] (pWeb CW) := ⟨_, _, ok_binit F_bi T B WG, ⟨mk_CW, a_bi, i_bi, kc_CW⟩, g_CW, b_bi⟩
  have MC : ClG l.prog w K mg base "Colours" C 4 ["self", "web", "colours"] (pCol C CW CB) := ⟨_, _, ok_cinit T R B l_oi c_oi ⟨_, _, _, hc_oi⟩ Co (ok_winit F_wi R) b_wi, ⟨mk_C, a_oi, i_oi, kc_C⟩, g_C, .all fun us hl => match us, hl with | [_, _, _], _ => rfl⟩
  have G_chk : FnG l.prog w K mg base "check_answer" 4 ["world", "setting"] (pCheck C CW CN) := ⟨_, _, ok_check F_chk R X_CN M_ans, PySem.W.mg_of X G a_chk, k_chk, b_chk⟩
  have G_lead : FnG l.prog w K mg base "lead_many" 6 ["web", "colours", "start", "goal"] (pLead CW CR CB CF CN) := ⟨_, _, ok_lead F_lead T B ⟨MC, G_mst, X_CF, G_chk, G_wth, G_spr, MR⟩, PySem.W.mg_of X G a_lead, k_lead, b_lead⟩
  have G_prs : FnG l.prog w K mg base "frozen_pairs" 6 ["n"] (pPairs CW CB) := ⟨_, _, ok_pairs F_prs T X_CB MW, PySem.W.mg_of X G a_prs, k_prs, b_prs⟩
  have G_bes : FnG l.prog w K mg base "_law_beside" 1 ["place", "ties"] (pBeside) := ⟨_, _, ok_beside F_bes T, PySem.W.mg_of X G a_bes, k_bes, b_bes⟩
  have G_tie : FnG l.prog w K mg base "_law_ties" 2 ["cell", "places", "count", "cap"] (pTies) := ⟨_, _, ok_ties F_tie T G_draw G_bes, PySem.W.mg_of X G a_tie, k_tie, b_tie⟩
  have G_col : FnG l.prog w K mg base "_law_colouring" 2 ["cell", "places", "ties", "colours"] (pColouring) := ⟨_, _, ok_colouring F_col T G_draw, PySem.W.mg_of X G a_col, k_col, b_col⟩
  have G_spl : FnG l.prog w K mg base "_law_spoilt" 2 ["setting", "ties", "colours", "choice", "at"] (pSpoilt) := ⟨_, _, ok_spoilt F_spl T G_put, PySem.W.mg_of X G a_spl, k_spl, b_spl⟩
  have G_cld : FnG l.prog w K mg base "_law_coloured" 1 ["setting", "places", "ties", "colours"] (pColoured) := ⟨_, _, ok_coloured F_cld T, PySem.W.mg_of X G a_cld, k_cld, b_cld⟩
  have G_row : FnG l.prog w K mg base "_law_row_stands" 2 ["row", "start", "goal", "ties", "colours"] (pStands CR) := ⟨_, _, ok_stands F_row T RR g_CR Is_CR G_cld, PySem.W.mg_of X G a_row, k_row, b_row⟩
  have G_ref : FnG l.prog w K mg base "_law_refused" 7 ["web", "colours", "start", "goal", "word", "due"] (pRefused CW) := ⟨_, _, ok_refused F_ref T Er G_lead H_int H_tup, PySem.W.mg_of X G a_ref, k_ref, b_ref⟩
  have G_pre : FnG l.prog w K mg base "_law_pairs_refused" 7 ["n"] (pPairsRef) := ⟨_, _, ok_pairsRef F_pre T Er G_prs H_int, PySem.W.mg_of X G a_pre, k_pre, b_pre⟩
  have G_pst : FnG l.prog w K mg base "_law_pairs_stand" 8 ["n"] (pPairsSt) := ⟨_, _, ok_pairsSt F_pst T R B ⟨G_prs, g_CW, Is_CW, G_int, G_tup, MC, M_ans, M_nxt, G_put, G_mst, G_ref, G_lead, G_row⟩, PySem.W.mg_of X G a_pst, k_pst, b_pst⟩
  exact ok_law F_law T ⟨G_cell, G_draw, G_int, G_tie, G_bes, G_col, MW, G_mst, G_lead, G_row, G_spl, G_ref, G_pre, G_pst⟩
end K92

open PySem PySem.W PyProof.Rows in
set_option maxRecDepth 100000 in
set_option maxHeartbeats 0 in
theorem PySem.Challenge.cw_everystepstands_k92_many_colours_within_holds : PySem.Challenge.rw_everystepstands_k92_many_colours_within.Holds := by
  w_on; o_law; k_head; (case hw => w_witness2)
  k_fill
  refine Y.walk 9 ⟨rfl, by decide, by decide⟩ (l := PySem.Challenge.rw_everystepstands_k92_many_colours_within) rfl rfl (fun w h Z => PySem.W.kIn_of Z) ?F
  case F =>
    intro w mg fa h KX G hmg
    refine' K92.all_mk KX G hmg ?n_CS ?n_CB ?n_CF ?n_CN ?n_CV ?n_C ?n_CR ?n_CW ?oc0 ?oc1 ?a_wi ?i_wi ?l_wi ?c_wi ?k_wi ?pg_C ?hd_C ?po_C ?sa_C ?kc_C ?mk_C ?ca_C ?mo_C ?rd_C ?rg_C ?cv_C_MOST_PLACES ?cv_C_MOST_COLOURS ?no_C_size ?no_C_web ?no_C_colours ?a_ans ?i_ans ?l_ans ?c_ans ?k_ans ?a_nxt ?i_nxt ?l_nxt ?c_nxt ?k_nxt ?a_oi ?i_oi ?l_oi ?c_oi ?k_oi ?cd_oi ?v2_oi ?pf_oi ?hc_oi ?ci_oi ?ms_oi ?su_oi ?wt_oi ?wf_oi ?pg_CR ?hd_CR ?po_CR ?sa_CR ?kc_CR ?mk_CR ?ca_CR ?mo_CR ?no_CR_settings ?a_ri ?i_ri ?l_ri ?c_ri ?k_ri ?pg_CW ?hd_CW ?po_CW ?sa_CW ?kc_CW ?mk_CW ?ca_CW ?mo_CW ?no_CW_places ?no_CW_ties ?no_CW_near ?a_bi ?i_bi ?l_bi ?c_bi ?k_bi ?a_wth ?l_wth ?c_wth ?k_wth ?a_chk ?l_chk ?c_chk ?k_chk ?a_mst ?l_mst ?c_mst ?k_mst ?a_spr ?l_spr ?c_spr ?k_spr ?a_lead ?l_lead ?c_lead ?k_lead ?a_prs ?l_prs ?c_prs ?k_prs ?a_cell ?l_cell ?c_cell ?k_cell ?a_draw ?l_draw ?c_draw ?k_draw ?a_int ?l_int ?c_int ?k_int ?a_tup ?l_tup ?c_tup ?k_tup ?a_bes ?l_bes ?c_bes ?k_bes ?a_tie ?l_tie ?c_tie ?k_tie ?a_col ?l_col ?c_col ?k_col ?a_put ?l_put ?c_put ?k_put ?a_spl ?l_spl ?c_spl ?k_spl ?a_cld ?l_cld ?c_cld ?k_cld ?a_row ?l_row ?c_row ?k_row ?a_ref ?l_ref ?c_ref ?k_ref ?a_pre ?l_pre ?c_pre ?k_pre ?a_pst ?l_pst ?c_pst ?k_pst ?a_law ?l_law ?c_law ?k_law ?z_len ?z_int ?z_tuple ?z_range ?z_list ?z_enumerate ?z_isinstance ?z_bool ?z_all ?z_any ?z_min ?z_max ?z_sorted ?z_set ?z_super ?z_ValueError ?tp ?thr ?x_CB ?sa_CB ?eb_CB ?ty_CB ?kc_CB ?ms_CB ?su_CB ?ve_CB ?ci_CB ?a_CB ?t_CB ?l_CB ?c_CB ?cd_CB ?v2_CB ?pf_CB ?hc_CB ?no_CB_index ?ga_CB ?gg_CB ?hd_CB ?ca_CB ?mo_CB ?x_CF ?sa_CF ?eb_CF ?ty_CF ?kc_CF ?ms_CF ?su_CF ?ve_CF ?ci_CF ?a_CF ?t_CF ?l_CF ?c_CF ?cd_CF ?v2_CF ?pf_CF ?hc_CF ?no_CF_needed ?ga_CF ?gg_CF ?hd_CF ?ca_CF ?mo_CF ?x_CN ?sa_CN ?eb_CN ?ty_CN ?kc_CN ?ms_CN ?su_CN ?ve_CN ?ci_CN ?a_CN ?t_CN ?l_CN ?c_CN ?cd_CN ?v2_CN ?pf_CN ?hc_CN ?no_CN_setting ?ga_CN ?gg_CN ?hd_CN ?ca_CN ?mo_CN ?g_MOST_PLACES ?g_MOST_TIES ?q_bF ?q_bN ?q_bS ?q_bV ?q_fN ?q_fS ?q_fV ?q_nS ?q_nV ?e_BB ?e_FB ?e_FF ?e_NB ?e_NF ?e_NN
    (case n_CS => k_is)
    (case n_CB => k_is)
    (case n_CF => k_is)
    (case n_CN => k_is)
    (case n_CV => k_is)
    (case n_C => k_is)
    (case n_CR => k_is)
    (case n_CW => k_is)
    (case oc0 => k_is)
    (case oc1 => k_is)
    (case a_wi => k_is)
    (case i_wi => k_is)
    (case l_wi => k_is)
    (case c_wi => k_is)
    (case k_wi => k_is)
    (case pg_C => k_is)
    (case hd_C => k_is)
    (case po_C => k_is)
    (case sa_C => k_is)
    (case kc_C => k_is)
    (case mk_C => k_is)
    (case ca_C => k_is)
    (case mo_C => k_is)
    (case rd_C => k_is)
    (case rg_C => k_is)
    (case cv_C_MOST_PLACES => k_is)
    (case cv_C_MOST_COLOURS => k_is)
    (case no_C_size => k_is)
    (case no_C_web => k_is)
    (case no_C_colours => k_is)
    (case a_ans => k_is)
    (case i_ans => k_is)
    (case l_ans => k_is)
    (case c_ans => k_is)
    (case k_ans => k_is)
    (case a_nxt => k_is)
    (case i_nxt => k_is)
    (case l_nxt => k_is)
    (case c_nxt => k_is)
    (case k_nxt => k_is)
    (case a_oi => k_is)
    (case i_oi => k_is)
    (case l_oi => k_is)
    (case c_oi => k_is)
    (case k_oi => k_is)
    (case cd_oi => k_is)
    (case v2_oi => rfl)
    (case pf_oi => decide +kernel)
    (case hc_oi => k_is)
    (case ci_oi => k_is)
    (case ms_oi => k_is)
    (case su_oi => ks_is)
    (case wt_oi => k_is)
    (case wf_oi => k_is)
    (case pg_CR => k_is)
    (case hd_CR => k_is)
    (case po_CR => k_is)
    (case sa_CR => k_is)
    (case kc_CR => k_is)
    (case mk_CR => k_is)
    (case ca_CR => k_is)
    (case mo_CR => k_is)
    (case no_CR_settings => k_is)
    (case a_ri => k_is)
    (case i_ri => k_is)
    (case l_ri => k_is)
    (case c_ri => k_is)
    (case k_ri => k_is)
    (case pg_CW => k_is)
    (case hd_CW => k_is)
    (case po_CW => k_is)
    (case sa_CW => k_is)
    (case kc_CW => k_is)
    (case mk_CW => k_is)
    (case ca_CW => k_is)
    (case mo_CW => k_is)
    (case no_CW_places => k_is)
    (case no_CW_ties => k_is)
    (case no_CW_near => k_is)
    (case a_bi => k_is)
    (case i_bi => k_is)
    (case l_bi => k_is)
    (case c_bi => k_is)
    (case k_bi => k_is)
    (case a_wth => k_is)
    (case l_wth => k_is)
    (case c_wth => k_is)
    (case k_wth => k_is)
    (case a_chk => k_is)
    (case l_chk => k_is)
    (case c_chk => k_is)
    (case k_chk => k_is)
    (case a_mst => k_is)
    (case l_mst => k_is)
    (case c_mst => k_is)
    (case k_mst => k_is)
    (case a_spr => k_is)
    (case l_spr => k_is)
    (case c_spr => k_is)
    (case k_spr => k_is)
    (case a_lead => k_is)
    (case l_lead => k_is)
    (case c_lead => k_is)
    (case k_lead => k_is)
    (case a_prs => k_is)
    (case l_prs => k_is)
    (case c_prs => k_is)
    (case k_prs => k_is)
    (case a_cell => k_is)
    (case l_cell => k_is)
    (case c_cell => k_is)
    (case k_cell => k_is)
    (case a_draw => k_is)
    (case l_draw => k_is)
    (case c_draw => k_is)
    (case k_draw => k_is)
    (case a_int => k_is)
    (case l_int => k_is)
    (case c_int => k_is)
    (case k_int => k_is)
    (case a_tup => k_is)
    (case l_tup => k_is)
    (case c_tup => k_is)
    (case k_tup => k_is)
    (case a_bes => k_is)
    (case l_bes => k_is)
    (case c_bes => k_is)
    (case k_bes => k_is)
    (case a_tie => k_is)
    (case l_tie => k_is)
    (case c_tie => k_is)
    (case k_tie => k_is)
    (case a_col => k_is)
    (case l_col => k_is)
    (case c_col => k_is)
    (case k_col => k_is)
    (case a_put => k_is)
    (case l_put => k_is)
    (case c_put => k_is)
    (case k_put => k_is)
    (case a_spl => k_is)
    (case l_spl => k_is)
    (case c_spl => k_is)
    (case k_spl => k_is)
    (case a_cld => k_is)
    (case l_cld => k_is)
    (case c_cld => k_is)
    (case k_cld => k_is)
    (case a_row => k_is)
    (case l_row => k_is)
    (case c_row => k_is)
    (case k_row => k_is)
    (case a_ref => k_is)
    (case l_ref => k_is)
    (case c_ref => k_is)
    (case k_ref => k_is)
    (case a_pre => k_is)
    (case l_pre => k_is)
    (case c_pre => k_is)
    (case k_pre => k_is)
    (case a_pst => k_is)
    (case l_pst => k_is)
    (case c_pst => k_is)
    (case k_pst => k_is)
    (case a_law => k_is)
    (case l_law => k_is)
    (case c_law => k_is)
    (case k_law => k_is)
    (case z_len => k_is)
    (case z_int => k_is)
    (case z_tuple => k_is)
    (case z_range => k_is)
    (case z_list => k_is)
    (case z_enumerate => k_is)
    (case z_isinstance => k_is)
    (case z_bool => k_is)
    (case z_all => k_is)
    (case z_any => k_is)
    (case z_min => k_is)
    (case z_max => k_is)
    (case z_sorted => k_is)
    (case z_set => k_is)
    (case z_super => k_is)
    (case z_ValueError => k_is)
    (case tp => decide +kernel)
    (case thr => k_is)
    (case x_CB => k_is)
    (case sa_CB => k_is)
    (case eb_CB => k_is)
    (case ty_CB => k_is)
    (case kc_CB => k_is)
    (case ms_CB => k_is)
    (case su_CB => ks_is)
    (case ve_CB => k_is)
    (case ci_CB => k_is)
    (case a_CB => k_is)
    (case t_CB => k_is)
    (case l_CB => k_is)
    (case c_CB => k_is)
    (case cd_CB => k_is)
    (case v2_CB => rfl)
    (case pf_CB => decide +kernel)
    (case hc_CB => k_is)
    (case no_CB_index => k_is)
    (case ga_CB => k_is)
    (case gg_CB => k_is)
    (case hd_CB => k_is)
    (case ca_CB => k_is)
    (case mo_CB => k_is)
    (case x_CF => k_is)
    (case sa_CF => k_is)
    (case eb_CF => k_is)
    (case ty_CF => k_is)
    (case kc_CF => k_is)
    (case ms_CF => k_is)
    (case su_CF => ks_is)
    (case ve_CF => k_is)
    (case ci_CF => k_is)
    (case a_CF => k_is)
    (case t_CF => k_is)
    (case l_CF => k_is)
    (case c_CF => k_is)
    (case cd_CF => k_is)
    (case v2_CF => rfl)
    (case pf_CF => decide +kernel)
    (case hc_CF => k_is)
    (case no_CF_needed => k_is)
    (case ga_CF => k_is)
    (case gg_CF => k_is)
    (case hd_CF => k_is)
    (case ca_CF => k_is)
    (case mo_CF => k_is)
    (case x_CN => k_is)
    (case sa_CN => k_is)
    (case eb_CN => k_is)
    (case ty_CN => k_is)
    (case kc_CN => k_is)
    (case ms_CN => k_is)
    (case su_CN => ks_is)
    (case ve_CN => k_is)
    (case ci_CN => k_is)
    (case a_CN => k_is)
    (case t_CN => k_is)
    (case l_CN => k_is)
    (case c_CN => k_is)
    (case cd_CN => k_is)
    (case v2_CN => rfl)
    (case pf_CN => decide +kernel)
    (case hc_CN => k_is)
    (case no_CN_setting => k_is)
    (case ga_CN => k_is)
    (case gg_CN => k_is)
    (case hd_CN => k_is)
    (case ca_CN => k_is)
    (case mo_CN => k_is)
    (case g_MOST_PLACES => k_is)
    (case g_MOST_TIES => k_is)
    (case q_bF => kit_is)
    (case q_bN => kit_is)
    (case q_bS => kit_is)
    (case q_bV => kit_is)
    (case q_fN => kit_is)
    (case q_fS => kit_is)
    (case q_fV => kit_is)
    (case q_nS => kit_is)
    (case q_nV => kit_is)
    (case e_BB => kts_exm)
    (case e_FB => kts_exm)
    (case e_FF => kts_exm)
    (case e_NB => kts_exm)
    (case e_NF => kts_exm)
    (case e_NN => kts_exm)

