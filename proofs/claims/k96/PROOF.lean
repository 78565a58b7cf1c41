import PyProof.Rows.All
import Wide.All
import OpenK.AllK
import Wide.FinOn
import HandS.ForMost
import HandS.ExcInit
import HandS.Nested
import HandS.Exc
import HandS.ExcCtx
import HandS.HotCalls
import KE.KExcSuper
import KE.KSuper
import HandS.IterVal
import KE.KOpsOwn
import KE.KOwnIter
import HandS.ExcOwn
import HandS.WordsExc
import HandS.TupAny
import HandS.TupMul
import HandS.Style
import HandS.IsInst
import HandS.Wide
import HandS.Property
import HandS.CallRecv
import HandS.ExcField
import KE.KExcIs
import KE.RegKSuper
import KE.RegKIsAll
import KE.RegKTryMore
import PySem.Challenge.RW_everystepstands_k96_rows_joined_and_turn
set_option Elab.async false
set_option linter.all false
set_option maxRecDepth 100000
set_option maxHeartbeats 2000000
namespace Sup
open PySem PySem.Spec PyProof.Rows L2 NdefX

/-! ## a body that says super(): it is walked where its own code stands on top -/
structure PSA (X : Cx) (c : Code) (st : List Stmt) (t : TS) : Prop where
  run : ∀ (pins : List (Addr × Obj)) (s : Shared) (σ : L2.St) (H : Hp) (D : Ends), Inv X pins σ H s → t D σ H →
    _root_.PySem.wpAt (model X.prog X.w) X.A c (execs st X.env) (SP X pins D) X.xe s
section
variable {X : Cx} {c : Code} {st : Stmt} {rest : List Stmt} {t u : TS}
theorem psa_of (h : PSs X rest t) : PSA X c rest t := ⟨fun pins s σ H D I q => _root_.PySem.wpAt_of_wpAny (h.run pins s σ H D I q)⟩
theorem psa_cons (h1 : PS X st t) (h2 : PSA X c rest u) : PSA X c (st :: rest) (tSeq t u) := by
  refine ⟨fun pins s σ H D I q => ?_⟩
  refine ks_wpAt_execs_cons (_root_.PySem.wpAt_of_wpAny (thn (h1.run pins s σ H { D with nx := u D } I q) fun f s1 q1 => ?_))
  cases f with
  | next =>
    obtain ⟨σ', H', I', q'⟩ := q1
    exact h2.run pins s1 σ' H' D I' q'
  | ret v => exact q1
  | brk => exact q1
  | cont => exact q1
end

/-- a def whose body may say super(): F tells its text, fr the captured names (`__class__`), ws what they hold -/
theorem fn_ofA {CX : CXT} {P : Program} {w : World} {K : PySem.W.Frag} {mg : Str → Option Value} {base : Heap} {k : Nat} {f : Addr} {F : NF} {dV kV doc pm ct oc : Value} {an od : Option Addr} {osl : Array (Option Value)} {N ps fr : List Str} {ws : List (Option V)} {sp : Sp}
    (lk : K.lookup f = some ⟨oc, od, .func (PySem.W.fnX F.name F.qual F.params F.body F.scope F.cl dV kV doc pm an (.ref F.c) ct), osl⟩) (hcd : PySem.W.codeIn K (.ref F.c) F.qual = true) (S : NScope N ps fr F.scope)
    (hc : ∀ (s : Shared) (A : Around) (outer : List Env) (H : Hp), Env0 P w K mg base A outer s H → CellsAt F.cl fr ws s.heap H)
    (len : ∀ vs H Q E, sp vs H Q E → vs.length = ps.length)
    (hbody : ∀ (A : Around) (outer : List Env) (s : Shared) (H : Hp) (vs : List V) (Q : VK) (E : XK), Room k (A.deeper (envF F f s.heap.objs.size)) → sp vs H Q E →
      ∃ t, PSA (ncx CX P w K mg base N F f A outer s H E) (.func F.body (envF F f s.heap.objs.size)) F.body t ∧ t { nx := fun _ H' => Q .non H', rt := Q } (startF N vs ws) H) :
    FnOk P w K mg base CX (k + 1) f (PySem.W.fnX F.name F.qual F.params F.body F.scope F.cl dV kV doc pm an (.ref F.c) ct) ps sp := by
  refine ⟨len, fun A outer s H args us vs Q E hr e0 hb r hsp => ?_⟩
  have hl := len _ _ _ _ hsp
  have KX : K.In s.heap := e0.mod.kin.keeps fun b o e => (e0.bs b o e).1
  have lim : s.heap.NoLimit := e0.mod.nolimit.keeps fun b o e => (e0.bs b o e).1
  refine ks_codeAny_call_defAt (body := F.body) (binds := ps.zip us) hr.depth (KX _ _ lk) rfl lim (PySem.W.codeRec_of KX hcd) rfl hb S.nocell (fun y hy => S.par _ (List.of_mem_zip hy).1) (fun h₁ hns kp => ?_) S.co S.gen S.kind
  obtain ⟨t, ht, hq⟩ := hbody A outer s H vs Q E (hr.deeper _) hsp
  have I : Inv (ncx CX P w K mg base N F f A outer s H E) [] (startF N vs ws) H { s with heap := h₁, toks := s.toks + (ps.zip us).length } := inv_startN S hr.hd e0 hl r (hc s A outer H e0) hns kp
  refine _root_.PySem.wpAt_mono (ht.run [] _ (startF N vs ws) H _ I hq) (fun fl s' hs => ?_) fun e s' hs => hs
  have fin : ∀ {σ' : L2.St} {H' : Hp} {v : V} {u : Value}, Inv (ncx CX P w K mg base N F f A outer s H E) [] σ' H' s' → L2.RelV v u → Q v H' → CE outer P w H s Q u s' :=
    fun {σ' H' v u} J rv q => ⟨v, H', J.os, J.bare, J.base, J.hok, rv, q⟩
  cases fl with
  | ret u =>
    obtain ⟨v, σ', H', J, rv, q⟩ := hs
    exact fin J rv q
  | next =>
    obtain ⟨σ', H', J, q⟩ := hs
    exact fin (v := V.non) (u := Value.none) J rfl q
  | brk =>
    obtain ⟨_, _, _, q⟩ := hs
    exact False.elim q
  | cont =>
    obtain ⟨_, _, _, q⟩ := hs
    exact False.elim q

/-- the cell of `__class__` stands in the written part -/
theorem cells_class {P : Program} {w : World} {K : PySem.W.Frag} {mg : Str → Option Value} {base : Heap} {A : Around} {outer : List Env} {s : Shared} {H : Hp} {cc C : Addr} {cl : Value} {cld : Option Addr} {csl : Array (Option Value)}
    (hk : K.lookup cc = some ⟨cl, cld, .cell (some (.ref C)), csl⟩) (e0 : Env0 P w K mg base A outer s H) : CellsAt [(("__class__" : Str), cc)] [("__class__" : Str)] [some (.ref C)] s.heap H := by
  have hb : base.get? cc = some ⟨cl, cld, .cell (some (.ref C)), csl⟩ := e0.mod.kin _ _ hk
  obtain ⟨h1, h2⟩ := e0.bs _ _ hb
  have one : ∀ y c, List.lookup y [(("__class__" : Str), cc)] = some c → y = ("__class__" : Str) ∧ c = cc := fun y c e => by
    simp only [List.lookup_cons, List.lookup_nil] at e
    split at e
    · rename_i q
      exact ⟨by simpa using q, (Option.some.inj e).symm⟩
    · cases e
  refine ⟨rfl, fun y c e => ?_, fun x y c e1 e2 => (one x c e1).1.trans (one y c e2).1.symm, fun i y e => ?_⟩
  · obtain ⟨_, rfl⟩ := one y c e
    exact ⟨h2, _, _, h1, rfl⟩
  · cases i with
    | zero =>
      have e' : y = ("__class__" : Str) := (Option.some.inj e).symm
      subst e'
      refine ⟨cc, by simp [List.lookup_cons], fun v hv => ?_⟩
      have : v = V.ref C := by
        have := Option.some.inj (Option.some.inj hv)
        exact this.symm
      subst this
      exact ⟨.ref C, rfl, _, h1, rfl⟩
    | succ i => simp at e

/-- what the written part says of a def with super(): its function object, its code's record, the cell of `__class__` (the class at D) -/
structure SupAt (P : Program) (K : PySem.W.Frag) (mg : Str → Option Value) (f cda cc D : Addr) (fd : FuncData) (sf : Str) : Prop where
  fn : ∃ oc od osl, K.lookup f = some ⟨oc, od, .func fd, osl⟩
  par : ∃ ar : Arg, (fd.params.posonlyargs ++ fd.params.args).head? = some ar ∧ ar.arg = sf
  code : ∃ ccl cdd vs ccs file tf, K.lookup cda = some ⟨ccl, cdd, .fields vs, ccs⟩ ∧ vs[2]? = some (.str file tf) ∧ ((P.main.file : Str) == file) = true
  top : (P.main.scope.names.lookup ("super" : Str)).isSome = false
  noSup : mg "super" = none
  cls : ∃ cdD, PySem.W.clsIn K D = some cdD
  thr : PySem.W.nsIn K PySem.cStatics "thirdparty.any" = some none

/-- `super()` evaluated in the body: a new super object for the class D and the instance in slot i -/
theorem sup_base {X : Cx} {body : List Stmt} {p0 p1 : Pos} {attr : Str} {whole : Sem Value} {f cda cc D C a : Addr} {fd : FuncData} {sf : Str} {ox : Obj} {i j : Nat} {pins : List (Addr × Obj)} {s : Shared} {σ : L2.St} {H : Hp} {Q : Value → Shared → Prop}
    (T : SupAt X.prog X.K X.mg f cda cc D fd sf) (hfu : X.env.func = some f) (hco : X.env.code = .ref cda)
    (hks : X.env.kindOf "super" = some .globalImplicit) (hkc : X.env.kindOf "__class__" = some .free) (hka : X.env.kindOf sf = some .local) (hat : (attr == ("__class__" : Str)) = false)
    (hNi : X.N[i]? = some sf) (hNj : X.N[j]? = some ("__class__" : Str)) (hself : σ[i]? = some (some (.ref a))) (hcls : σ[j]? = some (some (.ref D)))
    (I : Inv X pins σ H s) (ho : s.heap.get? a = some ox) (hc : ox.cls = .ref C) (hnc : ∀ c, ox.data ≠ .cls c) (hsub : PySem.W.mroIn X.K C (.ref D) = some true)
    (h : ∀ so h', h'.get? so = some { cls := .type "super", dict := none, data := .fields #[.ref D, .ref a, .ref C], slots := #[] } → Inv X pins σ H { s with heap := h' } → (∀ b o, s.heap.get? b = some o → h'.get? b = some o) → Q (.ref so) { s with heap := h' }) :
    _root_.PySem.wpAt (model X.prog X.w) X.A (.func body X.env) (attributeBase (.Call (.Name "super" p0) [] [] p1) attr X.env whole) Q X.xe s := by
  obtain ⟨oc, od, osl, hf⟩ := T.fn
  obtain ⟨ar, hp, har⟩ := T.par
  obtain ⟨ccl, cdd, vs, ccs, file, tf, hcode, hvs, hfile⟩ := T.code
  obtain ⟨cdD, hD⟩ := T.cls
  have KX := I.kIn
  obtain ⟨mb, hb1, hb2⟩ := I.mod.blt
  obtain ⟨m, hn, hl⟩ := I.loc
  obtain ⟨us, rs, ls⟩ := hl i sf _ hNi hself (.inl hka)
  obtain ⟨uc, rc, lc⟩ := hl j "__class__" _ hNj hcls (.inr (.inr hkc))
  obtain rfl : us = Value.ref a := rs
  obtain rfl : uc = Value.ref D := rc
  have hmself : m sf = some (Value.ref a) := by
    rcases ls with ⟨_, e⟩ | ⟨k, _⟩
    · exact e
    · rcases k with k | k <;> (rw [hka] at k; cases k)
  obtain ⟨c, hcell, hiscell⟩ : ∃ c, X.env.cells.lookup ("__class__" : Str) = some c ∧ s.heap.IsCell c (some (.ref D)) := by
    rcases lc with ⟨k, _⟩ | ⟨_, c, e1, e2⟩
    · rw [hkc] at k; cases k
    · exact ⟨c, e1, e2⟩
  obtain ⟨oD, hD1, hD2⟩ : ∃ oD, s.heap.get? D = some oD ∧ oD.data = .cls cdD := by
    unfold PySem.W.clsIn at hD
    split at hD
    · rename_i c d cd' sl hh
      cases hD
      exact ⟨_, KX _ _ hh, rfl⟩
    · cases hD
  refine ks_wpAt_super_base hks hkc hat hfu (KX _ _ hf) rfl hp hco (KX _ _ hcode) rfl hvs hfile T.top ?_
  refine PySem.W.ks_loadName_global I.ok.kind hks (Calls.loadGlobal_builtin (by rw [I.ok.glob]; exact I.mod.glob.keeps I.bk) T.noSup (by rw [I.ok.blt]; exact hb1.keeps I.bk) ((hb2 _ (by decide +kernel)).trans (by decide +kernel : bootBuiltins "super" = some (.type "super"))) ⟨rfl, ?_⟩)
  refine wpAny_loadName_free I.ok.kind hkc hcell hiscell ?_
  rw [har]
  refine wpAny_loadName_local I.ok.kind hka hn hmself ?_
  refine ks_wpAny_isType_cls hD1 hD2 ⟨rfl, ?_⟩
  obtain ⟨hh, g, d, t, os⟩ := s
  refine ks_wpAny_call_super hD1 hD2 ho hc hnc (PySem.W.looks_mroIn KX hsub) (fun h' e k => ?_)
  exact h _ h' e (I.kept (t' := t) k) k

section
variable {X : Cx} {pins : List (Addr × Obj)} {σ : L2.St} {H : Hp} {s : Shared}
/-- an untracked new object is kept as a pin -/
theorem pin_new {h' : Heap} {q : Addr} {o : Obj} (I : Inv X pins σ H s) (t' : Nat) (k : ∀ b u, s.heap.get? b = some u → h'.get? b = some u) (hq : s.heap.objs.size ≤ q) (ho : h'.get? q = some o) (hd : ∀ v, o.data ≠ .cell v) :
    Inv X ((q, o) :: pins) σ H { s with heap := h', toks := t' } := by
  have J : Inv X pins σ H { s with heap := h', toks := t' } := I.kept (t' := t') k
  refine J.pins_of fun p hp => ?_
  rcases List.mem_cons.mp hp with rfl | hp
  · exact ⟨ho, I.hok.fresh hq, fun z => absurd (Nat.lt_of_lt_of_le I.lt hq) (by rw [← z]; exact Nat.lt_irrefl _), I.nofs hq, hd⟩
  · exact J.pin p (List.mem_append_right _ hp)
theorem unpin {p : Addr × Obj} (I : Inv X (p :: pins) σ H s) : Inv X pins σ H s := I.pins_of fun q hq => I.pin q (List.mem_append_right _ (List.mem_cons_of_mem _ hq))
end

/-- super().__init__(..) of an exception over ValueError that is being made: nothing of it is told -/
def tSupE (i j : Nat) (C D : Addr) (ta : TA) (u : TS) : TS := fun E σ H => ∃ a : Addr, σ[j]? = some (some (.ref D)) ∧ σ[i]? = some (some (.ref a)) ∧ H a = some (exo a C none) ∧
  ta σ H fun vs H1 => vs.length ≤ 1000 ∧ H1 a = some (exo a C none) ∧ u E σ H1
/-- what the written part says of the class C (the body's class is D) for super().__init__ to be ValueError.__init__ -/
structure SupE (K : PySem.W.Frag) (C D : Addr) : Prop where
  ox : OexC K C
  sub : PySem.W.mroIn K C (.ref D) = some true
  sup : PySem.W.ks_superIn K C D "__init__" = some (some (.builtin "ValueError.__init__"))
  ve : PySem.W.subIn K (.ref C) (.type "ValueError") = some true
theorem mw_nocell {i : String} {x : Addr} : ∀ v, (PySem.W.kxs_mw i x).data ≠ .cell v := fun v => by
  unfold PySem.W.kxs_mw
  exact fun z => nomatch z
theorem call_mw {X : Cx} {pins : List (Addr × Obj)} {σ : L2.St} {H : Hp} {s : Shared} {u a C D : Addr} {us : List Value} {Q : Value → Shared → Prop} {E : Value → Shared → Prop} (T : SupE X.K C D) (I : Inv X pins σ H s) (hu : s.heap.get? u = some (PySem.W.kxs_mw "ValueError.__init__" a)) (e : H a = some (exo a C none)) (hl : us.length ≤ sizeLine)
    (h : ∀ s', Inv X pins σ H s' → Q .none s') : wpAny (model X.prog X.w) X.A (call (.ref u) us) Q E s := by
  obtain ⟨nm, q, N, bs, bm, sn, sub, ab, col, dd, k0, k1, k2, k3, k5, hC, hbm⟩ := T.ox.cls
  obtain ⟨t1, ho⟩ := exo_at I.hok e
  have KX := I.kIn
  obtain ⟨hp, g, d, t, os⟩ := s
  refine wpAny_call (codeAny_of_tree ?_)
  show wpAny _ X.A.in1 (callAny (.ref u) ⟨us, []⟩) _ _ _
  simp only [callAny]
  refine wpAny_bind (wpAny_load hu ?_)
  simp only [PySem.W.kxs_mw, show (Value.type "method-wrapper" == Value.type "method" || Value.type "method-wrapper" == Value.type "builtin_function_or_method" || Value.type "method-wrapper" == Value.type "method-wrapper") = true by decide, if_true]
  refine PySem.W.KFB.if_so (by decide) ?_
  refine wpAny_bind (PySem.W.check_bound_init F.excBase_ValueError.toExcCallFacts (KX _ _ hC) ho rfl ?_)
  refine wpAny_bind (wpAny_pure (wpAny_pure ?_))
  refine ⟨PySem.plainId_quiet F.excBase_ValueError.init.plain _, codeAny_builtin F.excBase_ValueError.initEntry ?_⟩
  refine PySem.W.exc_init_tree (cls := .ref C) (t0 := t1) (dv := none) (c2 := .none) (c3 := .none) (b4 := .bool false) ho hl fun h' k hx _ => ?_
  have J := I.write (t' := t) (x := a) (e := a) (o := exo a C none) (by rw [e]; exact True.intro) (.inl rfl) k ⟨_, hx⟩ (exo_ok hx)
  have eu : upd H a (exo a C none) = H := by
    funext b
    by_cases hb : b = a
    · rw [hb, upd_same, e]
    · rw [upd_ne hb]
  rw [eu] at J
  exact h _ J
theorem psa_superE {X : Cx} {body : List Stmt} {rest : List Stmt} {p0 p1 p2 p3 p4 : Pos} {f cda cc C D : Addr} {fd : FuncData} {sf : Str} {i j : Nat} {e : Expr} {es : List Expr} {ta : TA} {u : TS} {pl : Sem Bool}
    (T : SupAt X.prog X.K X.mg f cda cc D fd sf) (S : SupE X.K C D) (hfu : X.env.func = some f) (hco : X.env.code = .ref cda)
    (hks : X.env.kindOf "super" = some .globalImplicit) (hkc : X.env.kindOf "__class__" = some .free) (hka : X.env.kindOf sf = some .local)
    (hNi : X.N[i]? = some sf) (hNj : X.N[j]? = some ("__class__" : Str))
    (ha : PA X (e :: es) ta) (hr : PSA X (.func body X.env) rest u)
    (hi : interactive X.env = false := by rfl) (hs : swapsWith (.Call (.Attribute (.Call (.Name "super" p0) [] [] p1) "__init__" p2) (e :: es) [] p3) none p4.line X.env = pure false := by rfl)
    (he : starEach (e :: es) X.env = (false, eval e X.env) :: starEach es X.env := by rfl) (hpl : (backTo p3 (starEach es X.env)).any (·.1) = false := by rfl)
    (hev : eval (.Call (.Attribute (.Call (.Name "super" p0) [] [] p1) "__init__" p2) (e :: es) [] p3) X.env = (do
      let ov ← attributeBase (.Call (.Name "super" p0) [] [] p1) "__init__" X.env (eval (.Call (.Name "super" p0) [] [] p1) X.env)
      standAt p2.atName
      let (f, first) ← holding [ov] (getMethod ov "__init__" pl)
      callWith p3 f first (backTo p3 (starEach (e :: es) X.env)) []) := by rfl) :
    PSA X (.func body X.env) (.Expr (.Call (.Attribute (.Call (.Name "super" p0) [] [] p1) "__init__" p2) (e :: es) [] p3) p4 :: rest)
      (tSupE i j C D ta u) := by
  refine ⟨fun pins s σ H D' I q => ?_⟩
  obtain ⟨a, hcls, hself, ea, q⟩ := q
  obtain ⟨nm, qn, N', bs, bm, sn, sub, ab, col, dd, k0, k1, k2, k3, k5, hCl, hbm⟩ := S.ox.cls
  obtain ⟨t1, ho⟩ := exo_at I.hok ea
  have hcl : PySem.W.clsIn X.K C = some { name := nm, bases := bs, mro := .ref C :: bm, ns := N', qualname := qn, hasDict := true, slotNames := sn, subclasses := sub, abstract := ab, collection := col, hasDel := false } := by unfold PySem.W.clsIn; rw [hCl] <;> rfl
  refine ks_wpAt_execs_cons (ks_wpAt_Expr_any ?_ hi hs)
  refine ks_wpAt_MethodCall (pl := pl) ?_ hev
  refine sup_base T hfu hco hks hkc hka (by decide) hNi hNj hself hcls I ho rfl (fun c => by exact fun z => nomatch z) S.sub fun so h' hso J k => ?_
  have KJ := J.kIn
  have hoJ : h'.get? a = some ({ cls := .ref C, dict := none, data := .fields #[.ref t1, .none, .none, .none, .bool false, .none] } : Obj) := k _ _ ho
  have IA : PySem.W.InstAt h' a { cls := .ref C, dict := none, data := .fields #[.ref t1, .none, .none, .none, .bool false, .none] } C none := ⟨hoJ, rfl, rfl, trivial⟩
  have hf := S.sup
  unfold PySem.W.ks_superIn at hf
  rw [hcl] at hf
  obtain ⟨hh, g, d, t, os⟩ := s
  refine PySem.W.kxs_getMethod PySem.W.kxs_ValueError hso (PySem.W.looks_opaque KJ T.thr) ((PySem.W.looks_clsIn KJ hcl).andThen .now) rfl KJ hf (IA.type.andThen (PySem.W.looks_subIn KJ S.ve)) (PySem.W.ks_ne KJ IA hcl) (by decide) ?_
  have J2 := pin_new (t' := t + 1) J (h' := h'.push (PySem.W.kxs_mw "ValueError.__init__" a)) (q := h'.objs.size) (o := PySem.W.kxs_mw "ValueError.__init__" a) (fun b u e => Heap.get?_push_of_some _ e) (Nat.le_refl _) (Heap.get?_push_at rfl rfl) mw_nocell
  rw [he]
  refine PySem.W.kxs_callWith (i := "ValueError.__init__") (x := a) (by show (false || (backTo p3 (starEach es X.env)).any (·.1)) = false; rw [hpl]; rfl) ?_
  refine Calls.evalArgs_plain ?_
  have hrun := ha.run p3 _ _ σ H _ J2 q
  rw [he] at hrun
  refine thn hrun fun us s1 ⟨vs, H1, I1, r1, hl, ea1, q1⟩ => ?_
  have hu : s1.heap.get? h'.objs.size = some (PySem.W.kxs_mw "ValueError.__init__" a) := (I1.pin (h'.objs.size, PySem.W.kxs_mw "ValueError.__init__" a) (List.mem_append_right _ List.mem_cons_self)).1
  refine ⟨hu, call_mw S (unpin I1) hu ea1 (by
    show ([] ++ us).length ≤ sizeLine
    rw [List.nil_append, ← Paired.length r1, sizeLine_eq]
    omega) fun s' J' => ?_⟩
  exact hr.run pins s' σ H1 D' J' q1

/-! ## the own exceptions: super().__init__('..'); self.f = f; (self.g = g) -/
/-- the body's text -/
def exB1 (txt f : Str) (b : List Stmt) : Prop := ∃ p0 p1 p2 p3 p4 p5 p6 p7 p8 p9 ck, (∀ env : Env, ∃ pl, eval (.Call (.Attribute (.Call (.Name "super" p0) [] [] p1) "__init__" p2) [.Constant (.str txt) ck p5] [] p3) env = (do
      let ov ← attributeBase (.Call (.Name "super" p0) [] [] p1) "__init__" env (eval (.Call (.Name "super" p0) [] [] p1) env)
      standAt p2.atName
      let (f, first) ← holding [ov] (getMethod ov "__init__" pl)
      callWith p3 f first (backTo p3 (starEach [.Constant (.str txt) ck p5] env)) [])) ∧ b = [.Expr (.Call (.Attribute (.Call (.Name "super" p0) [] [] p1) "__init__" p2) [.Constant (.str txt) ck p5] [] p3) p4, .Assign [.Attribute (.Name "self" p6) f p7] (.Name f p8) p9]
def exB2 (txt f g : Str) (b : List Stmt) : Prop := ∃ p0 p1 p2 p3 p4 p5 p6 p7 p8 p9 q6 q7 q8 q9 ck, (∀ env : Env, ∃ pl, eval (.Call (.Attribute (.Call (.Name "super" p0) [] [] p1) "__init__" p2) [.Constant (.str txt) ck p5] [] p3) env = (do
      let ov ← attributeBase (.Call (.Name "super" p0) [] [] p1) "__init__" env (eval (.Call (.Name "super" p0) [] [] p1) env)
      standAt p2.atName
      let (f, first) ← holding [ov] (getMethod ov "__init__" pl)
      callWith p3 f first (backTo p3 (starEach [.Constant (.str txt) ck p5] env)) [])) ∧ b = [.Expr (.Call (.Attribute (.Call (.Name "super" p0) [] [] p1) "__init__" p2) [.Constant (.str txt) ck p5] [] p3) p4, .Assign [.Attribute (.Name "self" p6) f p7] (.Name f p8) p9, .Assign [.Attribute (.Name "self" q6) g q7] (.Name g q8) q9]
/-- the exception C(v): its own dict d, new, holds the field -/
def spEx1 (C : Addr) (f : Str) : Sp := fun vs H Q _ => ∃ (a : Addr) (v : V), vs = [.ref a, v] ∧ H a = some (exo a C none) ∧
  ∀ d, H d = none → d ≠ a → Q .non (upd (upd H d (exd d [(f, v)])) a (exo a C (some d)))
def spEx2 (C : Addr) (f g : Str) : Sp := fun vs H Q _ => ∃ (a : Addr) (v w : V), vs = [.ref a, v, w] ∧ H a = some (exo a C none) ∧
  ∀ d, H d = none → d ≠ a → Q .non (upd (upd (upd H d (exd d [(f, v)])) a (exo a C (some d))) d (exd d [(g, w), (f, v)]))
abbrev scOf (nm : List (Str × NameKind)) : Scope := { kind := .function, names := nm, isGenerator := false, isCoroutine := false, more := [] }
/-- the scope's words -/
def exSc (sc : Scope) : Bool := decide (sc.names.lookup ("super" : Str) = some .globalImplicit) && decide (sc.names.lookup ("__class__" : Str) = some .free) && decide (sc.names.lookup ("self" : Str) = some .local)
section
variable {P : Program} {w : World} {K : PySem.W.Frag} {mg : Str → Option Value} {base : Heap} {CX : CXT} {fI cda cc C : Addr} {ar : Arguments} {bd : List Stmt} {nm : List (Str × NameKind)} {qual txt f g : Str} {dV kV doc pm ct oc : Value} {an od : Option Addr} {osl : Array (Option Value)}
theorem ok_ex1 (lk : K.lookup fI = some ⟨oc, od, .func (PySem.W.fnX "__init__" qual ar bd (scOf nm) [("__class__", cc)] dV kV doc pm an (.ref cda) ct), osl⟩) (hcd : PySem.W.codeIn K (.ref cda) qual = true)
    (S : NScope ["self", f, "__class__"] ["self", f] ["__class__"] (scOf nm)) (hsc : exSc (scOf nm) = true) (hb : exB1 txt f bd)
    (T : SupAt P K mg fI cda cc C (PySem.W.fnX "__init__" qual ar bd (scOf nm) [("__class__", cc)] dV kV doc pm an (.ref cda) ct) "self") (TE : SupE K C C)
    (hcell : ∃ cl cld csl, K.lookup cc = some ⟨cl, cld, .cell (some (.ref C)), csl⟩) (noF : PySem.W.findIn K (.ref C) f = some none)
    (hd1 : (f == ("__debug__" : Str)) = false) (hd2 : (f == ("__classdict__" : Str)) = false) :
    FnOk P w K mg base CX 1 fI (PySem.W.fnX "__init__" qual ar bd (scOf nm) [("__class__", cc)] dV kV doc pm an (.ref cda) ct) ["self", f] (spEx1 C f) := by
  obtain ⟨cl, cld, csl, hcell⟩ := hcell
  obtain ⟨p0, p1, p2, p3, p4, p5, p6, p7, p8, p9, ck, hev, hb⟩ := hb
  unfold exSc at hsc
  simp only [Bool.and_eq_true, decide_eq_true_eq] at hsc
  obtain ⟨⟨h1, h2⟩, h3⟩ := hsc
  have h4 : (scOf nm).names.lookup f = some .local := S.par f (by simp)
  have hne : f ≠ ("__class__" : Str) := fun z => by rw [z, h2] at h4; cases h4
  refine fn_ofA (k := 0) (F := ⟨"__init__", qual, ar, bd, scOf nm, [("__class__", cc)], cda⟩) (ws := [some (.ref C)]) lk hcd S (fun s A outer H e0 => cells_class hcell e0) (fun vs H Q E h => ?_) (fun A outer s H vs Q E hr h => ?_)
  · obtain ⟨a, v, rfl, _⟩ := h
    rfl
  · obtain ⟨a, v, rfl, ea, q⟩ := h
    subst hb
    show ∃ t, PSA _ _ _ t ∧ _
    obtain ⟨pl, hev⟩ := hev (envF ⟨"__init__", qual, ar, _, scOf nm, [("__class__", cc)], cda⟩ fI s.heap.objs.size)
    refine ⟨_, psa_superE (X := ncx CX P w K mg base ["self", f, "__class__"] ⟨"__init__", qual, ar, _, scOf nm, [("__class__", cc)], cda⟩ fI A outer s H E) (i := 0) (j := 2) (C := C) T TE rfl rfl h1 h2 h3 rfl rfl
      (pa_cons pe_str pa_nil) (psa_of (pss_one (ps_ost (pe_var (i := 0) rfl (.inl h3)) (pe_var (i := 1) rfl (.inl h4) hd1 hd2)))) (hev := hev), ?_⟩
    refine ⟨a, rfl, rfl, ea, (by show 1 ≤ 1000; decide), ea, ?_⟩
    exact ⟨_, rfl, _, rfl, a, C, rfl, TE.ox, noF, .inl ⟨ea, fun dx n ne => q dx n ne⟩⟩
theorem ok_ex2 (lk : K.lookup fI = some ⟨oc, od, .func (PySem.W.fnX "__init__" qual ar bd (scOf nm) [("__class__", cc)] dV kV doc pm an (.ref cda) ct), osl⟩) (hcd : PySem.W.codeIn K (.ref cda) qual = true)
    (S : NScope ["self", f, g, "__class__"] ["self", f, g] ["__class__"] (scOf nm)) (hsc : exSc (scOf nm) = true) (hb : exB2 txt f g bd)
    (T : SupAt P K mg fI cda cc C (PySem.W.fnX "__init__" qual ar bd (scOf nm) [("__class__", cc)] dV kV doc pm an (.ref cda) ct) "self") (TE : SupE K C C)
    (hcell : ∃ cl cld csl, K.lookup cc = some ⟨cl, cld, .cell (some (.ref C)), csl⟩) (noF : PySem.W.findIn K (.ref C) f = some none) (noG : PySem.W.findIn K (.ref C) g = some none)
    (hd1 : (f == ("__debug__" : Str)) = false) (hd2 : (f == ("__classdict__" : Str)) = false) (hd3 : (g == ("__debug__" : Str)) = false) (hd4 : (g == ("__classdict__" : Str)) = false) :
    FnOk P w K mg base CX 1 fI (PySem.W.fnX "__init__" qual ar bd (scOf nm) [("__class__", cc)] dV kV doc pm an (.ref cda) ct) ["self", f, g] (spEx2 C f g) := by
  obtain ⟨cl, cld, csl, hcell⟩ := hcell
  obtain ⟨p0, p1, p2, p3, p4, p5, p6, p7, p8, p9, q6, q7, q8, q9, ck, hev, hb⟩ := hb
  unfold exSc at hsc
  simp only [Bool.and_eq_true, decide_eq_true_eq] at hsc
  obtain ⟨⟨h1, h2⟩, h3⟩ := hsc
  have h4 : (scOf nm).names.lookup f = some .local := S.par f (by simp)
  have h5 : (scOf nm).names.lookup g = some .local := S.par g (by simp)
  refine fn_ofA (k := 0) (F := ⟨"__init__", qual, ar, bd, scOf nm, [("__class__", cc)], cda⟩) (ws := [some (.ref C)]) lk hcd S (fun s A outer H e0 => cells_class hcell e0) (fun vs H Q E h => ?_) (fun A outer s H vs Q E hr h => ?_)
  · obtain ⟨a, v, w, rfl, _⟩ := h
    rfl
  · obtain ⟨a, v, z, rfl, ea, q⟩ := h
    subst hb
    show ∃ t, PSA _ _ _ t ∧ _
    obtain ⟨pl, hev⟩ := hev (envF ⟨"__init__", qual, ar, _, scOf nm, [("__class__", cc)], cda⟩ fI s.heap.objs.size)
    refine ⟨_, psa_superE (X := ncx CX P w K mg base ["self", f, g, "__class__"] ⟨"__init__", qual, ar, _, scOf nm, [("__class__", cc)], cda⟩ fI A outer s H E) (i := 0) (j := 3) (C := C) T TE rfl rfl h1 h2 h3 rfl rfl
      (pa_cons pe_str pa_nil) (psa_of (pss_cons (ps_ost (pe_var (i := 0) rfl (.inl h3)) (pe_var (i := 1) rfl (.inl h4) hd1 hd2)) (pss_one (ps_ost (pe_var (i := 0) rfl (.inl h3)) (pe_var (i := 2) rfl (.inl h5) hd3 hd4))))) (hev := hev), ?_⟩
    refine ⟨a, rfl, rfl, ea, (by show 1 ≤ 1000; decide), ea, ?_⟩
    refine ⟨_, rfl, _, rfl, a, C, rfl, TE.ox, noF, .inl ⟨ea, fun dx n ne => ?_⟩⟩
    refine ⟨_, rfl, _, rfl, a, C, rfl, TE.ox, noG, .inr ⟨dx, _, upd_same, (upd_ne ne).trans upd_same, (by show 1 ≤ 900; decide), q dx n ne⟩⟩
end

/-! ### raise C(v), raise C(v, w) -/
/-- what a raise of the class x asks of the written part -/
structure Ex1 (P : Program) (K : PySem.W.Frag) (mg : Str → Option Value) (x f : Str) (C : Addr) : Prop where
  gl : mg x = some (.ref C)
  te : SupE K C C
  init : ∃ fI fd, PySem.W.findIn K (.ref C) "__init__" = some (some (.ref fI)) ∧ PySem.W.typeIn K (.ref fI) = some (.type "function") ∧ L2.Binds K fd ["self", f] [] ∧
    ∀ (w : World) (base : Heap) (CX : CXT), FnOk P w K mg base CX 1 fI fd ["self", f] (spEx1 C f)
structure Ex2 (P : Program) (K : PySem.W.Frag) (mg : Str → Option Value) (x f g : Str) (C : Addr) : Prop where
  gl : mg x = some (.ref C)
  te : SupE K C C
  init : ∃ fI fd, PySem.W.findIn K (.ref C) "__init__" = some (some (.ref fI)) ∧ PySem.W.typeIn K (.ref fI) = some (.type "function") ∧ L2.Binds K fd ["self", f, g] [] ∧
    ∀ (w : World) (base : Heap) (CX : CXT), FnOk P w K mg base CX 1 fI fd ["self", f, g] (spEx2 C f g)
def tMk1 (C : Addr) (f : Str) (ta : TA) : L2.St → Hp → XK → Prop := fun σ H Q => ta σ H fun vs H1 => ∃ v, vs = [v] ∧ ∀ d, H1 d = none → Q (.ref C) (some d) (upd H1 d (.xd [(f, v)]))
def tMk2 (C : Addr) (f g : Str) (ta : TA) : L2.St → Hp → XK → Prop := fun σ H Q => ta σ H fun vs H1 => ∃ v w, vs = [v, w] ∧ ∀ d, H1 d = none → Q (.ref C) (some d) (upd H1 d (.xd [(g, w), (f, v)]))
theorem end_heap {H G : Hp} {a d : Addr} {fs : List (Str × V)} (na : H a = none) (ne : d ≠ a) (hG : ∀ b, b ≠ a → b ≠ d → G b = H b) : upd (del G a) d (.xd fs) = upd H d (.xd fs) := by
  funext b
  by_cases hb : b = d
  · rw [hb, upd_same, upd_same]
  · rw [upd_ne hb, upd_ne hb]
    by_cases ha : b = a
    · rw [ha, del_same, na]
    · rw [del_ne ha, hG b ha hb]
/-- an own error is made; its context is None -/
theorem pmkN_oex {X : Cx} {x : Str} {C fI : Addr} {k : Nat} {fd : FuncData} {ps : List Str} {sp : Sp} {e : Expr} {es : List Expr} {ta : TA} {p pos : Pos} (S : OexC X.K C) (hI : PySem.W.findIn X.K (.ref C) "__init__" = some (some (.ref fI)))
    (hT : PySem.W.typeIn X.K (.ref fI) = some (.type "function")) (Fi : FnOk X.prog X.w X.K X.mg X.base CX0 k fI fd ps sp) (hr : Room (k + 1) X.A) (hb : L2.Binds X.K fd ps []) (hg : Gl X x) (hm : X.mg x = some (.ref C)) (ha : PA X (e :: es) ta)
    (hdb : (x == ("__debug__" : Str)) = false) (he : starEach (e :: es) X.env = (false, eval e X.env) :: starEach es X.env) (hpl : (backTo pos (starEach es X.env)).any (·.1) = false) :
    L2N.PMk X (.Call (.Name x p) (e :: es) [] pos) (tMkO C sp [] ta) := fun pins s σ H Q I h => by
  obtain ⟨c1, c2, c3, c4, c5, c6, c7, c8, c9, c10, c11, c12, c13, c14, c15, hC, hB⟩ := S.cls
  apply wpAny_Call_Name_kw
  apply ld_glob I hg hm _ hdb
  refine PySem.W.callWith_K (h₀ := X.base) I.ok.mod.kin S.kC ?_ he hpl
  refine thn (ha.run pos pins s σ H _ I h) ?_
  rintro us ⟨h0, g, dr, tk, os⟩ ⟨vs, H1, I1, rv, hz, mk⟩
  refine ⟨I1.kIn, ?_⟩
  show wpAny _ _ (call (.ref C) us) _ _ _
  -- the new object's place
  generalize hn : h0.objs.size + 1 = n
  have big : h0.objs.size ≤ n := by omega
  have free : H1 n = none := I1.hok.fresh big
  have pr := mk n free
  let h1 := (h0.push (PySem.W.kdv_tup us)).push (PySem.HandSPX.excO C h0.objs.size)
  have old : ∀ b o, h0.get? b = some o → h1.get? b = some o := fun b o z => Heap.get?_push_of_some _ (Heap.get?_push_of_some _ z)
  have there : h1.get? n = some (PySem.HandSPX.excO C h0.objs.size) := by
    subst hn
    show ((h0.push (PySem.W.kdv_tup us)).push (PySem.HandSPX.excO C h0.objs.size)).get? (h0.objs.size + 1) = _
    heap_get
  have I2 : Inv X pins σ (upd H1 n (exo n C none)) ⟨h1, g, dr, tk, os⟩ := I1.laid (t' := tk) old big (exo_ok there)
  have r2 : Vals (V.ref n :: (vs ++ [])) (Value.ref n :: (us ++ [])) := .cons rfl (rv.append .nil)
  have len : ((Value.ref n :: us) ++ []).length = ps.length := by
    rw [← Fi.len _ _ _ _ pr]
    exact r2.length.symm
  have few : us.length ≤ sizeLine := by
    have := rv.length
    rw [sizeLine_eq]
    omega
  subst hn
  refine wpAny_call (PySem.HandSPX.call_own F.excBase_ValueError (fun Y => PySem.HandSPX.refsVE_contains Y c5 hB) (I1.kIn _ _ hC) (PySem.W.looks_findIn I1.kIn hI) (fun self => PySem.W.bind_fn I1.kIn self hT) few ?_)
  refine codeAny_mono (Fi.run _ X.stack _ _ _ _ _ _ _ (hr.make C us []) (I2.env0.make C us []) (hb _ _ I2.kIn len) r2 pr) fun r s' done => ?_
  match r, done with
  | .error er, done => exact pass0 pins σ _ _ er s' I2 done
  | .ok .next, done => exact done.elim
  | .ok .brk, done => exact done.elim
  | .ok .cont, done => exact done.elim
  | .ok (.ret u), ⟨v, H2, os2, bare2, un2, hok2, rv2, isN, d, fs, ea, ed, new, last⟩ =>
    subst isN
    obtain ⟨h2, g2, d2, t2, os3⟩ := s'
    obtain ⟨t0, G, J, kG, goneA, atA, na⟩ := mk_end0 (d2 := d2) (t2 := t2) I1 big old un2 hok2 os2 bare2 ea ed new
    exact ⟨rv2, ⟨_, _, _, ⟨G, g2, d2, t2, os3⟩, _, .ref C, some d, rfl, J, kG, goneA, atA, ⟨rfl, rfl, fun ws z => by cases z; rfl⟩, rfl, rfl, na, rfl, bare2, raises_own S.exC S.tyC, last⟩⟩
theorem PMk.imp {X : Cx} {e : Expr} {t u : L2.St → Hp → XK → Prop} (h : L2N.PMk X e t) (q : ∀ σ H Q, u σ H Q → t σ H Q) : L2N.PMk X e u := fun pins s σ H Q I x => h pins s σ H Q I (q σ H Q x)
/-- an argument list's own weakest reading -/
def wpA (X : Cx) (es : List Expr) : TA := fun σ H Q => ∀ (pos : Pos) (pins : List (Addr × Obj)) (s : Shared), Inv X pins σ H s → wpAny (model X.prog X.w) X.A (spliced (backTo pos (starEach es X.env))) (AP X pins σ Q) X.xe s
theorem pa_wp {X : Cx} {es : List Expr} : PA X es (wpA X es) := ⟨fun pos pins s σ H Q I h => h pos pins s I⟩
theorem pmk_1 {X : Cx} {x f : Str} {C : Addr} {e : Expr} {ta : TA} {p pos : Pos} (T : Ex1 X.prog X.K X.mg x f C) (hr : Room 2 X.A) (hg : Gl X x) (ha : PA X [e] ta)
    (hdb : (x == ("__debug__" : Str)) = false := by decide) (he : starEach [e] X.env = (false, eval e X.env) :: starEach [] X.env := by rfl) (hpl : (backTo pos (starEach [] X.env)).any (·.1) = false := by rfl) :
    L2N.PMk X (.Call (.Name x p) [e] [] pos) (tMk1 C f ta) := by
  obtain ⟨fI, fd, iC, tI, b, F⟩ := T.init
  refine PMk.imp (pmkN_oex T.te.ox iC tI (F X.w X.base CX0) hr b hg T.gl (pa_wp (X := X) (es := [e])) hdb he hpl) fun σ H Q h => ?_
  intro pos' pins s I
  refine thn (ha.run pos' pins s σ H _ I h) fun us s1 ⟨vs, H1, I1, r1, v, ev, q⟩ => ⟨vs, H1, I1, r1, ?_⟩
  subst ev
  refine ⟨(by show 1 ≤ 1000; decide), fun a na => ⟨a, v, rfl, upd_same, fun d hd ne => ⟨rfl, d, [(f, v)], upd_same, (upd_ne ne).trans upd_same, (upd_ne ne).symm.trans hd, ?_⟩⟩⟩
  rw [end_heap na ne fun b h1 h2 => by rw [upd_ne h1, upd_ne h2, upd_ne h1]]
  exact q d ((upd_ne ne).symm.trans hd)
theorem pmk_2 {X : Cx} {x f g : Str} {C : Addr} {e e2 : Expr} {ta : TA} {p pos : Pos} (T : Ex2 X.prog X.K X.mg x f g C) (hr : Room 2 X.A) (hg : Gl X x) (ha : PA X [e, e2] ta)
    (hdb : (x == ("__debug__" : Str)) = false := by decide) (he : starEach [e, e2] X.env = (false, eval e X.env) :: starEach [e2] X.env := by rfl) (hpl : (backTo pos (starEach [e2] X.env)).any (·.1) = false := by rfl) :
    L2N.PMk X (.Call (.Name x p) [e, e2] [] pos) (tMk2 C f g ta) := by
  obtain ⟨fI, fd, iC, tI, b, F⟩ := T.init
  refine PMk.imp (pmkN_oex T.te.ox iC tI (F X.w X.base CX0) hr b hg T.gl (pa_wp (X := X) (es := [e, e2])) hdb he hpl) fun σ H Q h => ?_
  intro pos' pins s I
  refine thn (ha.run pos' pins s σ H _ I h) fun us s1 ⟨vs, H1, I1, r1, v, w, ev, q⟩ => ⟨vs, H1, I1, r1, ?_⟩
  subst ev
  refine ⟨(by show 2 ≤ 1000; decide), fun a na => ⟨a, v, w, rfl, upd_same, fun d hd ne => ⟨rfl, d, [(g, w), (f, v)], (upd_ne ne.symm).trans upd_same, upd_same, (upd_ne ne).symm.trans hd, ?_⟩⟩⟩
  rw [end_heap na ne fun b h1 h2 => by rw [upd_ne h2, upd_ne h1, upd_ne h2, upd_ne h1]]
  exact q d ((upd_ne ne).symm.trans hd)
end Sup

namespace Own
open PySem PySem.Spec PyProof.Rows L2

/-! ## operators of own classes -/
/-- x op y, both instances of the class at C: the method's promise -/
def rOwn (C : Addr) (sp : Sp) (E : XK) : R2 := fun x y H Q => ∃ a dx fs b dy gs, x = .ref a ∧ y = .ref b ∧ H a = some (.ins C dx fs) ∧ H b = some (.ins C dy gs) ∧ sp [x, y] H Q E
theorem back_of {Q : Value → Shared → Prop} {v : V} {u : Value} {s : Shared} (r : RelV v u) (h : Q u s) : PySem.W.CmpBack Q u s := by
  cases v <;> first
    | (obtain ⟨t, rfl⟩ := r; exact h)
    | (cases r; exact h)
theorem op_own {X : Cx} {CX : CXT} {C f : Addr} {op : Operator} {k : Nat} {fd : FuncData} {ps : List Str} {sp : Sp} {E : XK} (hc : PySem.W.selfFirst X.K C = true) (hs : PySem.W.findIn X.K (.ref C) (PySem.dunder op.info.2) = some (some (.ref f))) (hf : PySem.W.isFn X.K (.ref f) = true)
    (F : FnOk X.prog X.w X.K X.mg X.base CX k f fd ps sp) (hr : Room k X.A) (hb : L2.Binds X.K fd ps []) (hx : Passes CX X E) : OpR X (binaryOp op) (rOwn C sp E) := by
  intro pins s σ H x y v u Q I rx ry h
  obtain ⟨a, dx, fs, b, dy, gs, rfl, rfl, ea, eb, q⟩ := h
  cases rx
  cases ry
  obtain ⟨mA, Oa, _⟩ := ins_get I.hok ea
  obtain ⟨mB, Ob, _⟩ := ins_get I.hok eb
  obtain ⟨od, Ja, _⟩ := Oa.look
  obtain ⟨od2, Jb, _⟩ := Ob.look
  obtain ⟨m, fr⟩ := I.fr
  refine PySem.W.binop_K fr I.ok.mod.kin Ja Jb.type hc hs hf ?_
  refine thn (run_fn (us := [.ref a, .ref b]) (vs := [.ref a, .ref b]) F hr hb .nil hx I (.cons rfl (.cons rfl .nil)) q) fun r s' ⟨v', H', I', r', q'⟩ => back_of r' ⟨v', H', I', r', q'⟩
/-- x in y, x not in y; y an instance whose class has __contains__, which gives a bool -/
def rOwnIn (C : Addr) (sp : Sp) (E : XK) (neg : Bool) : R2 := fun x y H Q => ∃ b dy gs, y = .ref b ∧ H b = some (.ins C dy gs) ∧ sp [y, x] H (fun v H' => ∃ c, v = .bl c ∧ Q (.bl (if neg then !c else c)) H') E
theorem op_ownIn {X : Cx} {CX : CXT} {C f : Addr} {k : Nat} {fd : FuncData} {ps : List Str} {sp : Sp} {E : XK} (hs : PySem.W.findIn X.K (.ref C) "__contains__" = some (some (.ref f))) (hf : PySem.W.isFn X.K (.ref f) = true)
    (F : FnOk X.prog X.w X.K X.mg X.base CX k f fd ps sp) (hr : Room k X.A) (hb : L2.Binds X.K fd ps []) (hx : Passes CX X E) : OpR X (compareOp .In) (rOwnIn C sp E false) := by
  intro pins s σ H x y v u Q I rx ry h
  obtain ⟨b, dy, gs, rfl, eb, q⟩ := h
  cases ry
  obtain ⟨mB, Ob, _⟩ := ins_get I.hok eb
  obtain ⟨od2, Jb, _⟩ := Ob.look
  obtain ⟨m, fr⟩ := I.fr
  refine PySem.W.in_K fr I.ok.mod.kin Jb hs hf ?_
  refine thn (run_fn (us := [.ref b, v]) (vs := [.ref b, x]) F hr hb .nil hx I (.cons rfl (.cons rx .nil)) q) fun r s' ⟨v', H', I', r', c, ev, q'⟩ => ?_
  subst ev
  cases r'
  exact wpAny_truthy_bool ⟨.bl _, H', I', rfl, q'⟩
theorem op_ownNotIn {X : Cx} {CX : CXT} {C f : Addr} {k : Nat} {fd : FuncData} {ps : List Str} {sp : Sp} {E : XK} (hs : PySem.W.findIn X.K (.ref C) "__contains__" = some (some (.ref f))) (hf : PySem.W.isFn X.K (.ref f) = true)
    (F : FnOk X.prog X.w X.K X.mg X.base CX k f fd ps sp) (hr : Room k X.A) (hb : L2.Binds X.K fd ps []) (hx : Passes CX X E) : OpR X (compareOp .NotIn) (rOwnIn C sp E true) := by
  intro pins s σ H x y v u Q I rx ry h
  obtain ⟨b, dy, gs, rfl, eb, q⟩ := h
  cases ry
  obtain ⟨mB, Ob, _⟩ := ins_get I.hok eb
  obtain ⟨od2, Jb, _⟩ := Ob.look
  obtain ⟨m, fr⟩ := I.fr
  refine PySem.W.notIn_K fr I.ok.mod.kin Jb hs hf ?_
  refine thn (run_fn (us := [.ref b, v]) (vs := [.ref b, x]) F hr hb .nil hx I (.cons rfl (.cons rx .nil)) q) fun r s' ⟨v', H', I', r', c, ev, q'⟩ => ?_
  subst ev
  cases r'
  exact wpAny_truthy_bool ⟨.bl _, H', I', rfl, q'⟩

/-! ## for x in o, o an instance whose __iter__ hands out iter(self.f), f a list -/
/-- one run of a def by its body: the wish may speak of the state at the entry -/
theorem run_body {CX : CXT} {P : Program} {w : World} {K : PySem.W.Frag} {mg : Str → Option Value} {base : Heap} {k : Nat} {f : Addr} {name qual : Str} {params : Arguments} {body : List Stmt} {scope : Scope} {dV kV doc pm cdv ct oc : Value} {an od : Option Addr}
    {osl : Array (Option Value)} {N ps : List Str} (lk : K.lookup f = some ⟨oc, od, .func (PySem.W.fnOf name qual params body scope dV kV doc pm an cdv ct), osl⟩) (hcd : PySem.W.codeIn K cdv qual = true) (S : FnScope N ps scope)
    {A : Around} {outer : List Env} {s : Shared} {H : Hp} {args : Args} {us : List Value} {vs : List V} {Q : VK} {E : XK} {t : TS} (hr : Room (k + 1) A) (e0 : Env0 P w K mg base A outer s H) (hb : BindsTo s (PySem.W.fnOf name qual params body scope dV kV doc pm an cdv ct) args (ps.zip us)) (r : Vals vs us) (hl : vs.length = ps.length)
    (ht : PSs (cxOf CX P w K mg base N qual scope f cdv A outer s H E) body t) (hq : t { nx := fun _ H' => Q .non H', rt := Q } (start N vs) H) :
    codeAny (model P w) A (.call (.ref f) args) (CR CX outer P w H s Q E) s := by
  have KX : K.In s.heap := e0.mod.kin.keeps fun b o e => (e0.bs b o e).1
  have lim : s.heap.NoLimit := e0.mod.nolimit.keeps fun b o e => (e0.bs b o e).1
  have hkind : ∀ y ∈ ps.zip us, scope.names.lookup y.1 = some .local ∨ (scope.names.lookup y.1 = some .cell ∧ ((cellsFrom (s.heap.objs.size + 1) scope.names []).lookup y.1).isSome = true) := fun y hy =>
    (S.par y.1 (List.of_mem_zip hy).1).elim .inl fun q => .inr ⟨q, PySem.W.cellsFrom_some _ _ _ (.inl q)⟩
  refine codeAny_call_function hr.depth (KX _ _ lk) rfl S.co S.gen rfl (PySem.W.codeRec_of KX hcd) (hb _ _ _ _ ?_)
  refine wpAny_newFunctionEnv_cells S.kind hkind fun env he s1 x => ?_
  subst he
  refine ⟨lim.keeps x.toInCall.keep, codeAny_func ?_⟩
  have I : Inv (cxOf CX P w K mg base N qual scope f cdv A outer s H E) [] (start N vs) H s1 := inv_start S hr.hd e0 hl r x
  refine wpAny_mono (ht.run [] s1 (start N vs) H _ I hq) (fun fl s' hs => ?_) fun e s' hs => hs
  cases fl with
  | ret u =>
    obtain ⟨v, σ', H', J, rv, q⟩ := hs
    exact ⟨v, H', J.os, J.bare, J.base, J.hok, rv, q⟩
  | next =>
    obtain ⟨σ', H', J, q⟩ := hs
    exact ⟨V.non, H', J.os, J.bare, J.base, J.hok, rfl, q⟩
  | brk =>
    obtain ⟨_, _, _, z⟩ := hs
    exact False.elim z
  | cont =>
    obtain ⟨_, _, _, z⟩ := hs
    exact False.elim z

/-- what the written part says of the class C's __iter__, at f: its text is «return iter(self.x)» -/
structure IterAt (K : PySem.W.Frag) (mg : Str → Option Value) (C f : Addr) (x : Str) : Prop where
  at_ : PySem.W.findIn K (.ref C) "__iter__" = some (some (.ref f))
  fn : PySem.W.isFn K (.ref f) = true
  cl : Cls K C
  noX : NoAttr K C x
  noI : mg "iter" = none
  txt : ∃ (qual : Str) (params : Arguments) (scope : Scope) (dV kV doc pm cdv ct oc : Value) (an od : Option Addr) (osl : Array (Option Value)) (N : List Str) (p0 p1 p2 p3 p4 : Pos),
    K.lookup f = some ⟨oc, od, .func (PySem.W.fnOf "__iter__" qual params [.Return (some (.Call (.Name "iter" p0) [.Attribute (.Name "self" p1) x p2] [] p3)) p4] scope dV kV doc pm an cdv ct), osl⟩ ∧ PySem.W.codeIn K cdv qual = true ∧
    FnScope N ["self"] scope ∧ N[0]? = some ("self" : Str) ∧ scope.names.lookup ("iter" : Str) = some .globalImplicit ∧ scope.names.lookup ("self" : Str) = some .local ∧
    (∀ us : List Value, us.length = 1 → bindArgs (PySem.W.fnOf "__iter__" qual params [.Return (some (.Call (.Name "iter" p0) [.Attribute (.Name "self" p1) x p2] [] p3)) p4] scope dV kV doc pm an cdv ct) ⟨us, []⟩ = pure ((["self"] : List Str).zip us)) ∧
    (∀ env : Env, starEach [.Attribute (.Name "self" p1) x p2] env = (false, eval (.Attribute (.Name "self" p1) x p2) env) :: starEach [] env) ∧ (∀ env : Env, (backTo p3 (starEach [] env)).any (·.1) = false) ∧
    (∀ env : Env, attributeBase (.Name "self" p1) x env (eval (.Name "self" p1) env) = eval (.Name "self" p1) env)

/-- o walked: the list at the address l that its field x holds -/
def iOwn (K : PySem.W.Frag) (C : Addr) (x : Str) (to : TE) : TI := fun σ H R => to σ H fun v H1 => ∃ a dx fs l, v = .ref a ∧ H1 a = some (.ins C dx fs) ∧ fs.lookup x = some (.ref l) ∧ (∃ xs, SqL K H1 l xs) ∧ R (Itl K l) H1
theorem pi_own {X : Cx} {C f : Addr} {x : Str} {o tg : Expr} {to : TE} (T : IterAt X.K X.mg C f x) (hr : Room 2 X.A) (ho : PE X o to) : PI X tg o (iOwn X.K C x to) := by
  refine ⟨fun pins s σ H R I h => ?_⟩
  refine thn (ho.run pins s σ H _ I h) fun v s1 ⟨y, H1, I1, r1, a, dx, fs, l, ey, ea, hl, ⟨xs, hq⟩, q⟩ => ?_
  subst ey
  cases r1
  obtain ⟨mA, Oa, _⟩ := ins_get I1.hok ea
  obtain ⟨od0, Ja, _⟩ := Oa.look
  obtain ⟨m, fr⟩ := I1.fr
  refine PySem.W.owit_iter fr I1.ok.mod.kin Ja T.at_ T.fn ?_
  obtain ⟨qual, params, scope, dV, kV, doc, pm, cdv, ct, oc, an, od, osl, N, p0, p1, p2, p3, p4, lk, hcd, S, hN, hI, hself, hbnd, hst, hpl, hab⟩ := T.txt
  let Q : VK := fun v H' => ∃ it, v = .ref it ∧ H1 it = none ∧ s1.heap.objs.size ≤ it ∧ H' = upd H1 it (ItO l it 0)
  refine wpAny_call (codeAny_mono (run_body (CX := CX0) (N := N) (ps := ["self"]) (us := [.ref a]) (vs := [.ref a]) (Q := Q) (E := E0) lk hcd S hr I1.env0 (.of_eq (hbnd [.ref a] rfl)) (.cons rfl .nil) rfl
    (pss_one (ps_ret (pe_callB ItX.call_iterN hI T.noI (by decide +kernel) (pa_cons (pe_fld (pe_var (i := 0) hN (.inl hself)) (hab _)) pa_nil) (by decide) (by decide) (hst _) (hpl _)))) ?_) fun r s' hq' => ?_)
  · exact ⟨.ref a, rfl, a, C, dx, fs, .ref l, rfl, ea, T.cl, T.noX, hl, l, xs, rfl, hq, fun it hn hz => ⟨it, rfl, hn, hz, rfl⟩⟩
  · cases r with
    | error er => exact hq'.elim
    | ok fl =>
      cases fl with
      | ret u =>
        obtain ⟨v', H', I', rv, it, rfl, hn, hz, rfl⟩ := I1.after hq'
        obtain rfl : u = Value.ref it := rv
        have hx := itO_get I' upd_same
        have hT : s'.TypeIs (.ref it) "list_iterator" := ⟨_, hx, rfl⟩
        have I2 := ItX.inv_drop I' (a := it) (by rw [upd_same]; rfl)
        rw [ItX.dropH_upd hn] at I2
        show wpAny _ _ (specialOf (.ref it) "__next__") _ _ _
        refine wpAny_specialOf (name := Str.ofString "__next__") hT slot_listiter_next.lookup ?_
        refine ⟨it, [it], _, _, H1, rfl, I2, turn_list l it, ⟨_, hx, rfl, rfl⟩, fun b hb => ?_, q⟩
        have e : b = it := by simpa using hb
        subst e
        exact I1.fpOk hz hn
      | next => exact False.elim hq'
      | brk => exact False.elim hq'
      | cont => exact False.elim hq'
end Own

/-! # Data in place of addresses: what a value stands for, told by one tree -/
namespace Y
open PySem L2

inductive D where
  | non | bl (b : Bool) | int (i : Int) | str (x : Str)
  | tup (ds : List D) | lst (ds : List D) | fz (ds : List D)
  | obj (C : Addr) (ns : List Str) (ds : List D)
  | xd (ns : List Str) (ds : List D)
  | dT (ks : List (List Key)) (ds : List D)
  | dK (ks : List Key) (ds : List D)
  | opq (v : V)
  | er (a C p : Addr) (ns : List Str) (ds : List D)
  | slf (p C : Addr) (ns : List Str) (ds : List D)

/-- H grows to H' -/
abbrev Ex (H H' : Hp) : Prop := ∀ a o, H a = some o → H' a = some o
theorem Ex.rd {H H' : Hp} {a : Addr} {u : HO} (e : Ex H H') (h : Rd H a u) : Rd H' a u := h.elim (fun z => .inl (e _ _ z)) fun ⟨o, z⟩ => .inr ⟨o, e _ _ z⟩
theorem Ex.l {K : PySem.W.Frag} {H H' : Hp} {a : Addr} {xs : List V} (e : Ex H H') (h : SqL K H a xs) : SqL K H' a xs := h.elim (fun z => .inl (Ex.rd e z)) .inr
theorem Ex.t {K : PySem.W.Frag} {H H' : Hp} {a : Addr} {xs : List V} (e : Ex H H') (h : SqT K H a xs) : SqT K H' a xs := h.elim (fun z => .inl (Ex.rd e z)) .inr
theorem Ex.tr {H H1 H2 : Hp} (a : Ex H H1) (b : Ex H1 H2) : Ex H H2 := fun c o h => b c o (a c o h)
theorem Ex.new {H : Hp} {p : Addr} {o : HO} (h : H p = none) : Ex H (upd H p o) := fun a u e => (upd_ne (ne_of_none e h)).trans e

section
variable (K : PySem.W.Frag)
mutual
/-- in the heap H the value v stands for d -/
def Rep (H : Hp) : D → V → Prop
  | .non, v => v = .non
  | .bl b, v => v = .bl b
  | .int i, v => v = .int i
  | .str x, v => v = .str x
  | .opq u, v => v = u
  | .er a _ p ns ds, v => ∃ fs, v = .ref a ∧ H p = some (.xd fs) ∧ fs.map (·.1) = ns ∧ Reps H ds (fs.map (·.2))
  | .slf a C ns ds, v => ∃ dx fs, v = .ref a ∧ H a = some (.ins C dx fs) ∧ fs.map (·.1) = ns ∧ Reps H ds (fs.map (·.2))
  | .tup ds, v => ∃ a vs, v = .ref a ∧ H a = some (.tup vs) ∧ Reps H ds vs
  | .lst ds, v => ∃ a vs, v = .ref a ∧ H a = some (.lst vs) ∧ Reps H ds vs
  | .fz ds, v => ∃ a vs, v = .ref a ∧ SqL K H a vs ∧ Reps H ds vs
  | .obj C ns ds, v => ∃ a dx fs, v = .ref a ∧ H a = some (.ins C dx fs) ∧ fs.map (·.1) = ns ∧ Reps H ds (fs.map (·.2))
  | .xd ns ds, v => ∃ a fs, v = .ref a ∧ H a = some (.xd fs) ∧ fs.map (·.1) = ns ∧ Reps H ds (fs.map (·.2))
  | .dT ks ds, v => ∃ a kvs, v = .ref a ∧ H a = some (.dT kvs) ∧ kvs.map (·.1) = ks ∧ Reps H ds (kvs.map (·.2))
  | .dK ks ds, v => ∃ a kvs, v = .ref a ∧ H a = some (.dK kvs) ∧ kvs.map (·.1) = ks ∧ Reps H ds (kvs.map (·.2))
def Reps (H : Hp) : List D → List V → Prop
  | [], vs => vs = []
  | d :: ds, vs => ∃ v us, vs = v :: us ∧ Rep H d v ∧ Reps H ds us
end
/-- the top in Ht, what is within in H -/
def RepB (Ht H : Hp) : D → V → Prop
  | .tup ds, v => ∃ a vs, v = .ref a ∧ Ht a = some (.tup vs) ∧ Reps K H ds vs
  | .lst ds, v => ∃ a vs, v = .ref a ∧ Ht a = some (.lst vs) ∧ Reps K H ds vs
  | .fz ds, v => ∃ a vs, v = .ref a ∧ SqL K Ht a vs ∧ Reps K H ds vs
  | .obj C ns ds, v => ∃ a dx fs, v = .ref a ∧ Ht a = some (.ins C dx fs) ∧ fs.map (·.1) = ns ∧ Reps K H ds (fs.map (·.2))
  | .xd ns ds, v => ∃ a fs, v = .ref a ∧ Ht a = some (.xd fs) ∧ fs.map (·.1) = ns ∧ Reps K H ds (fs.map (·.2))
  | .dT ks ds, v => ∃ a kvs, v = .ref a ∧ Ht a = some (.dT kvs) ∧ kvs.map (·.1) = ks ∧ Reps K H ds (kvs.map (·.2))
  | .dK ks ds, v => ∃ a kvs, v = .ref a ∧ Ht a = some (.dK kvs) ∧ kvs.map (·.1) = ks ∧ Reps K H ds (kvs.map (·.2))
  | .slf a C ns ds, v => ∃ dx fs, v = .ref a ∧ Ht a = some (.ins C dx fs) ∧ fs.map (·.1) = ns ∧ Reps K H ds (fs.map (·.2))
  | d, v => Rep K H d v
/-- an object that may be written, what is within in H -/
def RepH (H : Hp) : D → Addr → HO → Prop
  | .lst ds, _, .lst vs => Reps K H ds vs
  | .obj C ns ds, _, .ins C' _ fs => C = C' ∧ fs.map (·.1) = ns ∧ Reps K H ds (fs.map (·.2))
  | .slf q C ns ds, p, .ins C' _ fs => (C = C' ∧ q = p) ∧ fs.map (·.1) = ns ∧ Reps K H ds (fs.map (·.2))
  | .dT ks ds, _, .dT kvs => kvs.map (·.1) = ks ∧ Reps K H ds (kvs.map (·.2))
  | .dK ks ds, _, .dK kvs => kvs.map (·.1) = ks ∧ Reps K H ds (kvs.map (·.2))
  | _, _, _ => False
end
section
variable {K : PySem.W.Frag} {H H' Ht Ht' : Hp}
mutual
theorem Rep.mono (e : Ex H H') : ∀ {d : D} {v : V}, Rep K H d v → Rep K H' d v
  | .non, _, h => h
  | .bl _, _, h => h
  | .int _, _, h => h
  | .str _, _, h => h
  | .opq _, _, h => h
  | .tup ds, v, ⟨a, vs, h1, h2, h3⟩ => ⟨a, vs, h1, e _ _ h2, Reps.mono e h3⟩
  | .lst ds, v, ⟨a, vs, h1, h2, h3⟩ => ⟨a, vs, h1, e _ _ h2, Reps.mono e h3⟩
  | .fz ds, v, ⟨a, vs, h1, h2, h3⟩ => ⟨a, vs, h1, Ex.l e h2, Reps.mono e h3⟩
  | .obj C ns ds, v, ⟨a, dx, fs, h1, h2, h3, h4⟩ => ⟨a, dx, fs, h1, e _ _ h2, h3, Reps.mono e h4⟩
  | .xd ns ds, v, ⟨a, fs, h1, h2, h3, h4⟩ => ⟨a, fs, h1, e _ _ h2, h3, Reps.mono e h4⟩
  | .dT ks ds, v, ⟨a, kvs, h1, h2, h3, h4⟩ => ⟨a, kvs, h1, e _ _ h2, h3, Reps.mono e h4⟩
  | .dK ks ds, v, ⟨a, kvs, h1, h2, h3, h4⟩ => ⟨a, kvs, h1, e _ _ h2, h3, Reps.mono e h4⟩
  | .er a C p ns ds, v, ⟨fs, h1, h2, h3, h4⟩ => ⟨fs, h1, e _ _ h2, h3, Reps.mono e h4⟩
  | .slf a C ns ds, v, ⟨dx, fs, h1, h2, h3, h4⟩ => ⟨dx, fs, h1, e _ _ h2, h3, Reps.mono e h4⟩
theorem Reps.mono (e : Ex H H') : ∀ {ds : List D} {vs : List V}, Reps K H ds vs → Reps K H' ds vs
  | [], _, h => h
  | d :: ds, _, ⟨v, us, h1, h2, h3⟩ => ⟨v, us, h1, Rep.mono e h2, Reps.mono e h3⟩
end
theorem RepB.mono (et : Ex Ht Ht') (e : Ex H H') : ∀ {d : D} {v : V}, RepB K Ht H d v → RepB K Ht' H' d v
  | .non, _, h => h
  | .bl _, _, h => h
  | .int _, _, h => h
  | .str _, _, h => h
  | .opq _, _, h => h
  | .tup ds, v, ⟨a, vs, h1, h2, h3⟩ => ⟨a, vs, h1, et _ _ h2, Reps.mono e h3⟩
  | .lst ds, v, ⟨a, vs, h1, h2, h3⟩ => ⟨a, vs, h1, et _ _ h2, Reps.mono e h3⟩
  | .fz ds, v, ⟨a, vs, h1, h2, h3⟩ => ⟨a, vs, h1, Ex.l et h2, Reps.mono e h3⟩
  | .obj C ns ds, v, ⟨a, dx, fs, h1, h2, h3, h4⟩ => ⟨a, dx, fs, h1, et _ _ h2, h3, Reps.mono e h4⟩
  | .xd ns ds, v, ⟨a, fs, h1, h2, h3, h4⟩ => ⟨a, fs, h1, et _ _ h2, h3, Reps.mono e h4⟩
  | .dT ks ds, v, ⟨a, kvs, h1, h2, h3, h4⟩ => ⟨a, kvs, h1, et _ _ h2, h3, Reps.mono e h4⟩
  | .dK ks ds, v, ⟨a, kvs, h1, h2, h3, h4⟩ => ⟨a, kvs, h1, et _ _ h2, h3, Reps.mono e h4⟩
  | .er a C p ns ds, v, h => Rep.mono (d := .er a C p ns ds) e h
  | .slf a C ns ds, v, ⟨dx, fs, h1, h2, h3, h4⟩ => ⟨dx, fs, h1, et _ _ h2, h3, Reps.mono e h4⟩
theorem Rep.b (et : Ex H Ht) : ∀ {d : D} {v : V}, Rep K H d v → RepB K Ht H d v
  | .non, _, h => h
  | .bl _, _, h => h
  | .int _, _, h => h
  | .str _, _, h => h
  | .opq _, _, h => h
  | .tup ds, v, ⟨a, vs, h1, h2, h3⟩ => ⟨a, vs, h1, et _ _ h2, h3⟩
  | .lst ds, v, ⟨a, vs, h1, h2, h3⟩ => ⟨a, vs, h1, et _ _ h2, h3⟩
  | .fz ds, v, ⟨a, vs, h1, h2, h3⟩ => ⟨a, vs, h1, Ex.l et h2, h3⟩
  | .obj C ns ds, v, ⟨a, dx, fs, h1, h2, h3, h4⟩ => ⟨a, dx, fs, h1, et _ _ h2, h3, h4⟩
  | .xd ns ds, v, ⟨a, fs, h1, h2, h3, h4⟩ => ⟨a, fs, h1, et _ _ h2, h3, h4⟩
  | .dT ks ds, v, ⟨a, kvs, h1, h2, h3, h4⟩ => ⟨a, kvs, h1, et _ _ h2, h3, h4⟩
  | .dK ks ds, v, ⟨a, kvs, h1, h2, h3, h4⟩ => ⟨a, kvs, h1, et _ _ h2, h3, h4⟩
  | .er _ _ _ _ _, _, h => h
  | .slf a C ns ds, v, ⟨dx, fs, h1, h2, h3, h4⟩ => ⟨dx, fs, h1, et _ _ h2, h3, h4⟩
theorem RepH.mono (e : Ex H H') {d : D} {a : Addr} {o : HO} (h : RepH K H d a o) : RepH K H' d a o := by
  cases d <;> cases o <;> first
    | exact h.elim
    | exact Reps.mono e h
    | exact ⟨h.1, Reps.mono e h.2⟩
    | exact ⟨h.1, h.2.1, Reps.mono e h.2.2⟩
theorem RepH.b {a : Addr} {d : D} {o : HO} (h : RepH K H d a o) (ha : Ht a = some o) : RepB K Ht H d (.ref a) := by
  cases d <;> cases o <;> first
    | exact h.elim
    | exact ⟨a, _, rfl, ha, h⟩
    | (obtain ⟨rfl, h1, h2⟩ := h; exact ⟨a, _, _, rfl, ha, h1, h2⟩)
    | (obtain ⟨⟨rfl, rfl⟩, h1, h2⟩ := h; exact ⟨_, _, rfl, ha, h1, h2⟩)
theorem RepH.rep {a : Addr} {d : D} {o : HO} (h : RepH K H d a o) (ha : H a = some o) : Rep K H d (.ref a) := by
  cases d <;> cases o <;> first
    | exact h.elim
    | exact ⟨a, _, rfl, ha, h⟩
    | (obtain ⟨rfl, h1, h2⟩ := h; exact ⟨a, _, _, rfl, ha, h1, h2⟩)
    | (obtain ⟨⟨rfl, rfl⟩, h1, h2⟩ := h; exact ⟨_, _, rfl, ha, h1, h2⟩)
/-! lists of data -/
theorem Reps.len : ∀ {ds : List D} {vs : List V}, Reps K H ds vs → vs.length = ds.length
  | [], _, h => by rw [h] <;> rfl
  | _ :: _, _, ⟨_, _, h1, _, h3⟩ => by rw [h1, List.length_cons, List.length_cons, Reps.len h3]
theorem Reps.get : ∀ {ds : List D} {vs : List V} {i : Nat} {d : D}, Reps K H ds vs → ds[i]? = some d → ∃ v, vs[i]? = some v ∧ Rep K H d v
  | [], _, _, _, _, e => by simp at e
  | _ :: _, _, 0, _, ⟨v, _, h1, h2, _⟩, e => by
    have e' := Option.some.inj e
    subst e'
    exact ⟨v, by rw [h1] <;> rfl, h2⟩
  | _ :: _, _, i + 1, _, ⟨_, us, h1, _, h3⟩, e => by
    obtain ⟨v, q1, q2⟩ := Reps.get (i := i) h3 e
    exact ⟨v, by rw [h1]; exact q1, q2⟩
theorem Reps.got : ∀ {ds : List D} {vs : List V} {i : Nat} {v : V}, Reps K H ds vs → vs[i]? = some v → ∃ d, ds[i]? = some d ∧ Rep K H d v
  | [], _, _, _, h, e => by rw [h] at e; simp at e
  | d :: _, _, 0, _, ⟨v, _, h1, h2, _⟩, e => by
    rw [h1] at e
    have e' := Option.some.inj e
    subst e'
    exact ⟨d, rfl, h2⟩
  | _ :: ds, _, i + 1, _, ⟨_, us, h1, _, h3⟩, e => by
    rw [h1] at e
    exact Reps.got (i := i) h3 e
theorem Reps.app : ∀ {ds es : List D} {vs us : List V}, Reps K H ds vs → Reps K H es us → Reps K H (ds ++ es) (vs ++ us)
  | [], _, _, _, h, g => by rw [h]; exact g
  | _ :: _, _, _, _, ⟨v, _, h1, h2, h3⟩, g => ⟨v, _, by rw [h1] <;> rfl, h2, Reps.app h3 g⟩
theorem Reps.one {d : D} {v : V} (h : Rep K H d v) : Reps K H [d] [v] := ⟨v, [], rfl, h, rfl⟩
theorem Reps.nil : Reps K H [] [] := rfl
theorem Reps.cons {d : D} {v : V} {ds : List D} {vs : List V} (h : Rep K H d v) (g : Reps K H ds vs) : Reps K H (d :: ds) (v :: vs) := ⟨v, vs, rfl, h, g⟩
theorem Reps.set : ∀ {ds : List D} {vs : List V} {d : D} {v : V} (i : Nat), Reps K H ds vs → Rep K H d v → Reps K H (ds.set i d) (vs.set i v)
  | [], _, _, _, _, h, _ => by rw [h]; exact rfl
  | _ :: _, _, _, v, 0, ⟨_, us, h1, _, h3⟩, g => ⟨v, us, by rw [h1] <;> rfl, g, h3⟩
  | _ :: _, _, _, _, i + 1, ⟨v, us, h1, h2, h3⟩, g => ⟨v, us.set i _, by rw [h1] <;> rfl, h2, Reps.set i h3 g⟩
theorem Reps.take : ∀ {ds : List D} {vs : List V} (n : Nat), Reps K H ds vs → Reps K H (ds.take n) (vs.take n)
  | _, _, 0, _ => rfl
  | [], _, _ + 1, h => by rw [h]; exact rfl
  | _ :: _, _, n + 1, ⟨v, us, h1, h2, h3⟩ => ⟨v, us.take n, by rw [h1] <;> rfl, h2, Reps.take n h3⟩
theorem Reps.drop : ∀ {ds : List D} {vs : List V} (n : Nat), Reps K H ds vs → Reps K H (ds.drop n) (vs.drop n)
  | _, _, 0, h => h
  | [], _, _ + 1, h => by rw [h]; exact rfl
  | _ :: _, _, n + 1, ⟨_, us, h1, _, h3⟩ => by rw [h1]; exact Reps.drop n h3
theorem Reps.rev : ∀ {ds : List D} {vs : List V}, Reps K H ds vs → Reps K H ds.reverse vs.reverse
  | [], _, h => by rw [h]; exact rfl
  | _ :: _, _, ⟨v, us, h1, h2, h3⟩ => by
    rw [h1, List.reverse_cons, List.reverse_cons]
    exact Reps.app (Reps.rev h3) (Reps.one h2)
/-- scalars -/
theorem Reps.ints : ∀ {ns : List Int} {vs : List V}, Reps K H (ns.map .int) vs → vs = ns.map V.int
  | [], _, h => h
  | _ :: _, _, ⟨_, _, h1, h2, h3⟩ => by rw [h1, h2, Reps.ints h3] <;> rfl
theorem Reps.of_ints : ∀ {ns : List Int}, Reps K H (ns.map .int) (ns.map V.int)
  | [] => rfl
  | _ :: _ => ⟨_, _, rfl, rfl, Reps.of_ints⟩
end
end Y

namespace Y
open PySem L2

/-! ## slots: what is known of a name's value, or of a value on the stack of an expression -/
/-- no: nothing; va: frozen data; ow: an object of one's own that may be changed; br: read from outside (its top stands since the entry); bw: read now -/
inductive Sl where
  | no | va (d : D) | ow (d : D) | br (d : D) | bw (d : D)
/-- the heap without the objects that somebody may change -/
def cut (H : Hp) (O : List Addr) : Hp := fun a => if a ∈ O then none else H a
section
variable {H H' : Hp} {O O' : List Addr} {a p : Addr} {o : HO}
theorem cut_ex : Ex (cut H O) H := fun a o h => by
  unfold cut at h
  split at h
  · cases h
  · exact h
theorem cut_mono (e : Ex H H') : Ex (cut H O) (cut H' O) := fun a o h => by
  unfold cut at h ⊢
  split at h
  · cases h
  · rename_i n
    rw [if_neg n]
    exact e _ _ h
theorem cut_sub (s : ∀ a ∈ O, a ∈ O') : Ex (cut H O') (cut H O) := fun a o h => by
  unfold cut at h ⊢
  split at h
  · cases h
  · rename_i n
    rw [if_neg fun z => n (s a z)]
    exact h
theorem cut_upd (h : p ∈ O) : cut (upd H p o) O = cut H O := by
  funext a
  unfold cut
  split
  · rfl
  · rename_i n
    exact upd_ne fun z => n (by rw [z]; exact h)
theorem cut_out (h : p ∉ O) : cut H O p = H p := if_neg h
/-- a new object that one keeps for oneself -/
theorem cut_own (e : Ex H H') (hp : H p = none) : Ex (cut H O) (cut H' (p :: O)) := fun a o h => by
  unfold cut at h ⊢
  split at h
  · cases h
  · rename_i n
    have hne : a ≠ p := ne_of_none h hp
    rw [if_neg fun z => (List.mem_cons.mp z).elim hne n]
    exact e _ _ h
end

section
variable (K : PySem.W.Frag) (H0 : Hp)
def SlOk (O : List Addr) (H : Hp) : Sl → Option V → Prop
  | .no, _ => True
  | .va d, x => ∃ v, x = some v ∧ Rep K (cut H O) d v
  | .ow d, x => ∃ p o, x = some (.ref p) ∧ p ∈ O ∧ H0 p = none ∧ H p = some o ∧ RepH K (cut H O) d p o
  | .br d, x => ∃ v, x = some v ∧ RepB K H0 (cut H O) d v
  | .bw d, x => ∃ v, x = some v ∧ RepB K H (cut H O) d v
structure WfO (Oc O : List Addr) (G : List Sl) (S : List (Option V)) (H : Hp) : Prop where
  sub : ∀ a ∈ Oc, a ∈ O
  new : ∀ a ∈ O, a ∈ Oc ∨ H0 a = none
  old : ∀ a ∈ Oc, H0 a ≠ none
  live : ∀ a ∈ O, H a ≠ none
  ex : Ex H0 H
  len : S.length = G.length
  ok : ∀ (i : Nat) (s : Sl) (x : Option V), G[i]? = some s → S[i]? = some x → SlOk K H0 O H s x
  nd : ∀ (i j : Nat) (p : Addr) (d d' : D), G[i]? = some (.ow d) → S[i]? = some (some (.ref p)) → G[j]? = some (.ow d') → S[j]? = some (some (.ref p)) → i = j
def Wf (Oc : List Addr) (G : List Sl) (S : List (Option V)) (H : Hp) : Prop := ∃ O, WfO K H0 Oc O G S H
end
section
variable {K : PySem.W.Frag} {H0 H H' : Hp} {O Oc : List Addr} {G G' : List Sl} {S S' : List (Option V)} {s : Sl} {x : Option V} {d : D}
theorem SlOk.mono (e : Ex H H') : ∀ {s : Sl} {x : Option V}, SlOk K H0 O H s x → SlOk K H0 O H' s x
  | .no, _, _ => trivial
  | .va _, _, ⟨v, h1, h2⟩ => ⟨v, h1, Rep.mono (cut_mono e) h2⟩
  | .ow _, _, ⟨p, o, h1, h2, h3, h4, h5⟩ => ⟨p, o, h1, h2, h3, e _ _ h4, RepH.mono (cut_mono e) h5⟩
  | .br _, _, ⟨v, h1, h2⟩ => ⟨v, h1, RepB.mono (fun _ _ z => z) (cut_mono e) h2⟩
  | .bw _, _, ⟨v, h1, h2⟩ => ⟨v, h1, RepB.mono e (cut_mono e) h2⟩
/-- .. one new address is kept for oneself -/
theorem SlOk.own {p : Addr} (e : Ex H H') (hp : H p = none) : ∀ {s : Sl} {x : Option V}, SlOk K H0 O H s x → SlOk K H0 (p :: O) H' s x
  | .no, _, _ => trivial
  | .va _, _, ⟨v, h1, h2⟩ => ⟨v, h1, Rep.mono (cut_own e hp) h2⟩
  | .ow _, _, ⟨q, o, h1, h2, h3, h4, h5⟩ => ⟨q, o, h1, List.mem_cons_of_mem _ h2, h3, e _ _ h4, RepH.mono (cut_own e hp) h5⟩
  | .br _, _, ⟨v, h1, h2⟩ => ⟨v, h1, RepB.mono (fun _ _ z => z) (cut_own e hp) h2⟩
  | .bw _, _, ⟨v, h1, h2⟩ => ⟨v, h1, RepB.mono e (cut_own e hp) h2⟩
theorem WfO.grow (W : WfO K H0 Oc O G S H) (e : Ex H H') : WfO K H0 Oc O G S H' :=
  ⟨W.sub, W.new, W.old, fun a h z => (by
    cases q : H a with
    | none => exact W.live a h q
    | some o =>
      rw [e _ _ q] at z
      cases z), Ex.tr W.ex e, W.len, fun i s x h1 h2 => (W.ok i s x h1 h2).mono e, W.nd⟩
theorem Wf.grow (W : Wf K H0 Oc G S H) (e : Ex H H') : Wf K H0 Oc G S H' := let ⟨O, w⟩ := W; ⟨O, w.grow e⟩
theorem Wf.ex (W : Wf K H0 Oc G S H) : Ex H0 H := let ⟨_, w⟩ := W; w.ex
theorem WfO.pop {y : Option V} (W : WfO K H0 Oc O (s :: G) (y :: S) H) : WfO K H0 Oc O G S H :=
  ⟨W.sub, W.new, W.old, W.live, W.ex, by simpa using W.len, fun i s x h1 h2 => W.ok (i + 1) s x h1 h2, fun i j p d d' h1 h2 h3 h4 => Nat.succ.inj (W.nd (i + 1) (j + 1) p d d' h1 h2 h3 h4)⟩
theorem Wf.pop {y : Option V} (W : Wf K H0 Oc (s :: G) (y :: S) H) : Wf K H0 Oc G S H := let ⟨O, w⟩ := W; ⟨O, w.pop⟩
theorem WfO.head {y : Option V} (W : WfO K H0 Oc O (s :: G) (y :: S) H) : SlOk K H0 O H s y := W.ok 0 s y rfl rfl
/-- something that is not one's own comes on top -/
theorem WfO.push {y : Option V} (W : WfO K H0 Oc O G S H) (h : SlOk K H0 O H s y) (hs : ∀ d, s ≠ .ow d) : WfO K H0 Oc O (s :: G) (y :: S) H :=
  ⟨W.sub, W.new, W.old, W.live, W.ex, by simp [W.len], fun i s' x h1 h2 => by
    cases i with
    | zero =>
      have e1 := Option.some.inj h1
      have e2 := Option.some.inj h2
      subst e1
      subst e2
      exact h
    | succ i => exact W.ok i s' x h1 h2, fun i j p d d' h1 h2 h3 h4 => by
    cases i with
    | zero => exact absurd (Option.some.inj h1) (hs d)
    | succ i =>
      cases j with
      | zero => exact absurd (Option.some.inj h3) (hs d')
      | succ j => exact congrArg Nat.succ (W.nd i j p d d' h1 h2 h3 h4)⟩
/-- an own object's address is among O and stands -/
theorem WfO.owner {i : Nat} {p : Addr} (W : WfO K H0 Oc O G S H) (h1 : G[i]? = some (.ow d)) (h2 : S[i]? = some (some (.ref p))) : p ∈ O ∧ H0 p = none ∧ ∃ o, H p = some o ∧ RepH K (cut H O) d p o := by
  obtain ⟨q, o, e, q1, q2, q3, q4⟩ := W.ok i _ _ h1 h2
  cases e
  exact ⟨q1, q2, o, q3, q4⟩
/-- a new object of one's own comes on top -/
theorem WfO.pushOw {p : Addr} {o : HO} (W : WfO K H0 Oc O G S H) (e : Ex H H') (hp : H p = none) (ho : H' p = some o) (h : RepH K (cut H' (p :: O)) d p o) : WfO K H0 Oc (p :: O) (.ow d :: G) (some (.ref p) :: S) H' := by
  have h0 : H0 p = none := by
    cases q : H0 p with
    | none => rfl
    | some u => rw [W.ex _ _ q] at hp; cases hp
  refine ⟨fun a z => List.mem_cons_of_mem _ (W.sub a z), fun a z => ?_, ?_, fun a z => ?_, Ex.tr W.ex e, by simp [W.len], fun i s' x h1 h2 => ?_, ?_⟩
  · rcases List.mem_cons.mp z with rfl | z
    · exact .inr h0
    · exact W.new a z
  · exact W.old
  · rcases List.mem_cons.mp z with rfl | z
    · rw [ho]; exact fun z => nomatch z
    · exact (W.grow e).live a z
  · cases i with
    | zero =>
      have e1 := Option.some.inj h1
      have e2 := Option.some.inj h2
      subst e1
      subst e2
      exact ⟨p, o, rfl, List.mem_cons_self, h0, ho, h⟩
    | succ i => exact (W.ok i s' x h1 h2).own e hp
  · intro i j q d1 d2 h1 h2 h3 h4
    have old : ∀ {i : Nat} {d : D}, G[i]? = some (.ow d) → S[i]? = some (some (.ref p)) → False := fun {i d} a b => by
      obtain ⟨_, _, o, z, _⟩ := W.owner a b
      rw [hp] at z
      cases z
    cases i with
    | zero =>
      have e := V.ref.inj (Option.some.inj (Option.some.inj h2))
      subst e
      cases j with
      | zero => rfl
      | succ j => exact (old h3 h4).elim
    | succ i =>
      cases j with
      | zero =>
        have e := V.ref.inj (Option.some.inj (Option.some.inj h4))
        subst e
        exact (old h1 h2).elim
      | succ j => exact congrArg Nat.succ (W.nd i j q d1 d2 h1 h2 h3 h4)
/-- an own object is given up: nobody changes it any more -/
theorem SlOk.less {p : Addr} (hn : ∀ d, s = .ow d → x ≠ some (.ref p)) (h : SlOk K H0 O H s x) : SlOk K H0 (O.filter (· ≠ p)) H s x := by
  have sub : ∀ a ∈ O.filter (· ≠ p), a ∈ O := fun a z => (List.mem_filter.mp z).1
  cases s with
  | no => trivial
  | va d => obtain ⟨v, h1, h2⟩ := h; exact ⟨v, h1, Rep.mono (cut_sub sub) h2⟩
  | br d => obtain ⟨v, h1, h2⟩ := h; exact ⟨v, h1, RepB.mono (fun _ _ z => z) (cut_sub sub) h2⟩
  | bw d => obtain ⟨v, h1, h2⟩ := h; exact ⟨v, h1, RepB.mono (fun _ _ z => z) (cut_sub sub) h2⟩
  | ow d =>
    obtain ⟨q, o, h1, h2, h3, h4, h5⟩ := h
    refine ⟨q, o, h1, List.mem_filter.mpr ⟨h2, ?_⟩, h3, h4, RepH.mono (cut_sub sub) h5⟩
    have := hn d rfl
    rw [h1] at this
    simpa using fun z : q = p => this (by rw [z])
theorem WfO.freeze {y : Option V} (W : WfO K H0 Oc O (.ow d :: G) (y :: S) H) : ∃ O', WfO K H0 Oc O' (.va d :: G) (y :: S) H := by
  obtain ⟨p, o, rfl, h2, h3, h4, h5⟩ := W.head
  have sub : ∀ a ∈ O.filter (· ≠ p), a ∈ O := fun a z => (List.mem_filter.mp z).1
  have npc : p ∉ Oc := fun z => W.old p z h3
  refine ⟨O.filter (· ≠ p), ⟨fun a z => List.mem_filter.mpr ⟨W.sub a z, by simpa using fun q : a = p => npc (q ▸ z)⟩, fun a z => W.new a (sub a z), W.old, fun a z => W.live a (sub a z), W.ex, by simpa using W.len, fun i s' x h1 h2' => ?_, ?_⟩⟩
  · cases i with
    | zero =>
      have e1 := Option.some.inj h1
      have e2 := Option.some.inj h2'
      subst e1
      subst e2
      refine ⟨.ref p, rfl, RepH.rep (RepH.mono (cut_sub sub) h5) ?_⟩
      rw [cut_out (by simp)]
      exact h4
    | succ i =>
      refine SlOk.less (fun d' hs hx => ?_) (W.ok (i + 1) s' x h1 h2')
      subst hs
      exact absurd (W.nd 0 (i + 1) p d d' rfl rfl h1 (hx ▸ h2')) (by omega)
  · intro i j q d1 d2 h1 h2' h3' h4'
    cases i with
    | zero => exact absurd (Option.some.inj h1) (fun z => nomatch z)
    | succ i =>
      cases j with
      | zero => exact absurd (Option.some.inj h3') (fun z => nomatch z)
      | succ j => exact W.nd (i + 1) (j + 1) q d1 d2 h1 h2' h3' h4'
end
end Y

namespace Y
open PySem L2

/-! ## weakest readings of the text itself -/
def wpE (X : Cx) (e : Expr) : TE := fun σ H Q => ∀ (pins : List (Addr × Obj)) (s : Shared), Inv X pins σ H s → wpAny (model X.prog X.w) X.A (eval e X.env) (EP X pins σ Q) X.xe s
def wpT (X : Cx) (e : Expr) : TT := fun σ H Q => ∀ (pins : List (Addr × Obj)) (s : Shared), Inv X pins σ H s → wpAny (model X.prog X.w) X.A (isTrue e X.env (eval e X.env)) (TP X pins σ Q) X.xe s
def wpW (X : Cx) (e : Expr) : TT := fun σ H Q => ∀ (whole : Sem Value) (pins : List (Addr × Obj)) (s : Shared), Inv X pins σ H s → wpAny (model X.prog X.w) X.A (isTrue e X.env whole) (TP X pins σ Q) X.xe s
def wpA (X : Cx) (es : List Expr) : TA := fun σ H Q => ∀ (pos : Pos) (pins : List (Addr × Obj)) (s : Shared), Inv X pins σ H s → wpAny (model X.prog X.w) X.A (spliced (backTo pos (starEach es X.env))) (AP X pins σ Q) X.xe s
def wpS (X : Cx) (st : Stmt) : TS := fun D σ H => ∀ (pins : List (Addr × Obj)) (s : Shared), Inv X pins σ H s → wpAny (model X.prog X.w) X.A (exec st X.env) (SP X pins D) X.xe s
def wpSs (X : Cx) (st : List Stmt) : TS := fun D σ H => ∀ (pins : List (Addr × Obj)) (s : Shared), Inv X pins σ H s → wpAny (model X.prog X.w) X.A (execs st X.env) (SP X pins D) X.xe s
section
variable {X : Cx} {e : Expr} {es : List Expr} {st : Stmt} {sts : List Stmt} {σ : L2.St} {H : Hp}
theorem pe_wp : PE X e (wpE X e) := ⟨fun pins s σ H Q I h => h pins s I⟩
theorem pt_wp : PT X e (wpT X e) := ⟨fun pins s σ H Q I h => h pins s I⟩
theorem pw_wp : PW X e (wpW X e) := ⟨fun w pins s σ H Q I h => h w pins s I⟩
theorem pa_wp : PA X es (wpA X es) := ⟨fun pos pins s σ H Q I h => h pos pins s I⟩
theorem ps_wp : PS X st (wpS X st) := ⟨fun pins s σ H D I h => h pins s I⟩
theorem pss_wp : PSs X sts (wpSs X sts) := ⟨fun pins s σ H D I h => h pins s I⟩
theorem wpE.of {t : TE} {Q : VK} (h : PE X e t) (q : t σ H Q) : wpE X e σ H Q := fun pins s I => h.run pins s σ H Q I q
theorem wpT.of {t : TT} {Q : Bool → Hp → Prop} (h : PT X e t) (q : t σ H Q) : wpT X e σ H Q := fun pins s I => h.run pins s σ H Q I q
theorem wpW.of {t : TT} {Q : Bool → Hp → Prop} (h : PW X e t) (q : t σ H Q) : wpW X e σ H Q := fun w pins s I => h.run w pins s σ H Q I q
theorem wpA.of {t : TA} {Q : List V → Hp → Prop} (h : PA X es t) (q : t σ H Q) : wpA X es σ H Q := fun pos pins s I => h.run pos pins s σ H Q I q
theorem wpS.of {t : TS} {D : Ends} (h : PS X st t) (q : t D σ H) : wpS X st D σ H := fun pins s I => h.run pins s σ H D I q
theorem wpSs.of {t : TS} {D : Ends} (h : PSs X sts t) (q : t D σ H) : wpSs X sts D σ H := fun pins s I => h.run pins s σ H D I q
theorem wpE.mono {Q Q' : VK} (h : wpE X e σ H Q) (q : ∀ v H', Q v H' → Q' v H') : wpE X e σ H Q' := fun pins s I => thn (h pins s I) fun u s' ⟨v, H', I', r, z⟩ => ⟨v, H', I', r, q v H' z⟩
end

/-! ## what an expression gives, in terms of data -/
section
variable (X : Cx) (H0 : Hp) (Oc : List Addr) (Γ : List Sl)
def Ev (e : Expr) (s : Sl) : Prop := ∀ (Δ : List Sl) (τ : List (Option V)) (σ : L2.St) (H : Hp) (Q : VK), τ.length = Δ.length → Wf X.K H0 Oc (Δ ++ Γ) (τ ++ σ) H →
  (∀ v H', Wf X.K H0 Oc (s :: (Δ ++ Γ)) (some v :: (τ ++ σ)) H' → Q v H') → wpE X e σ H Q
/-- as a test -/
def Et (e : Expr) (b : Bool) : Prop := ∀ (Δ : List Sl) (τ : List (Option V)) (σ : L2.St) (H : Hp) (Q : Bool → Hp → Prop), τ.length = Δ.length → Wf X.K H0 Oc (Δ ++ Γ) (τ ++ σ) H →
  (∀ H', Wf X.K H0 Oc (Δ ++ Γ) (τ ++ σ) H' → Q b H') → wpT X e σ H Q
def Ew (e : Expr) (b : Bool) : Prop := ∀ (Δ : List Sl) (τ : List (Option V)) (σ : L2.St) (H : Hp) (Q : Bool → Hp → Prop), τ.length = Δ.length → Wf X.K H0 Oc (Δ ++ Γ) (τ ++ σ) H →
  (∀ H', Wf X.K H0 Oc (Δ ++ Γ) (τ ++ σ) H' → Q b H') → wpW X e σ H Q
/-- arguments: their slots, under one common set of changeable objects -/
def ArgsOk (K : PySem.W.Frag) (H0 : Hp) (O : List Addr) (H : Hp) : List Sl → List V → Prop
  | [], vs => vs = []
  | s :: ss, vs => ∃ v us, vs = v :: us ∧ SlOk K H0 O H s (some v) ∧ ArgsOk K H0 O H ss us
def Ea (es : List Expr) (ss : List Sl) : Prop := ∀ (Δ : List Sl) (τ : List (Option V)) (σ : L2.St) (H : Hp) (Q : List V → Hp → Prop), τ.length = Δ.length → Wf X.K H0 Oc (Δ ++ Γ) (τ ++ σ) H →
  (∀ vs O H', WfO X.K H0 Oc O (Δ ++ Γ) (τ ++ σ) H' → ArgsOk X.K H0 O H' ss vs → Q vs H') → wpA X es σ H Q
end
/-- what a slot tells to a reader -/
def Sl.dat : Sl → Option D
  | .no => none
  | .va d => some d
  | .ow d => some d
  | .br d => some d
  | .bw d => some d
section
variable {K : PySem.W.Frag} {H0 H H' : Hp} {O Oc : List Addr} {G : List Sl} {S : List (Option V)} {s : Sl} {d : D} {v : V}
theorem SlOk.b (e : Ex H0 H) (h : SlOk K H0 O H s (some v)) (hd : s.dat = some d) : RepB K H (cut H O) d v := by
  cases s with
  | no => cases hd
  | va d' =>
    cases hd
    obtain ⟨u, h1, h2⟩ := h
    cases h1
    exact Rep.b cut_ex h2
  | ow d' =>
    cases hd
    obtain ⟨p, o, h1, h2, h3, h4, h5⟩ := h
    cases h1
    exact RepH.b h5 h4
  | br d' =>
    cases hd
    obtain ⟨u, h1, h2⟩ := h
    cases h1
    exact RepB.mono e (fun _ _ z => z) h2
  | bw d' =>
    cases hd
    obtain ⟨u, h1, h2⟩ := h
    cases h1
    exact h2
theorem WfO.tobw (W : WfO K H0 Oc O (s :: G) (some v :: S) H) (hd : s.dat = some d) : WfO K H0 Oc O (.bw d :: G) (some v :: S) H :=
  W.pop.push ⟨v, rfl, W.head.b W.ex hd⟩ fun _ z => nomatch z
/-- data that need no heap -/
def flatD : D → Bool
  | .non | .bl _ | .int _ | .str _ | .opq _ => true
  | _ => false
theorem Rep.flat (h : Rep K H d v) (hf : flatD d = true) : Rep K H' d v := by cases d <;> first | exact h | exact absurd hf Bool.false_ne_true
theorem WfO.flat (W : WfO K H0 Oc O G S H) (hf : flatD d = true) (h : Rep K H' d v) : WfO K H0 Oc O (.va d :: G) (some v :: S) H :=
  W.push ⟨v, rfl, h.flat hf⟩ fun _ z => nomatch z
theorem RepB.flat (h : RepB K H H' d v) (hf : flatD d = true) : Rep K H' d v := by cases d <;> first | exact h | exact absurd hf Bool.false_ne_true
/-- a new tuple, frozen -/
theorem WfO.newTup {p : Addr} {ds : List D} {vs : List V} (W : WfO K H0 Oc O G S H) (hp : H p = none) (h : Reps K (cut H O) ds vs) : WfO K H0 Oc O (.va (.tup ds) :: G) (some (.ref p) :: S) (upd H p (.tup vs)) := by
  have np : p ∉ O := fun z => W.live p z hp
  refine (W.grow (Ex.new hp)).push ⟨.ref p, rfl, p, vs, rfl, ?_, Reps.mono (cut_mono (Ex.new hp)) h⟩ fun _ z => nomatch z
  rw [cut_out np]
  exact upd_same
theorem WfO.newLst {p : Addr} {ds : List D} {vs : List V} (W : WfO K H0 Oc O G S H) (hp : H p = none) (h : Reps K (cut H O) ds vs) : WfO K H0 Oc (p :: O) (.ow (.lst ds) :: G) (some (.ref p) :: S) (upd H p (.lst vs)) :=
  W.pushOw (Ex.new hp) hp upd_same (Reps.mono (cut_own (Ex.new hp) hp) h)
end
section
variable {X : Cx} {H0 : Hp} {Oc : List Addr} {Γ : List Sl} {e a b : Expr} {s : Sl} {d : D} {i j : Int} {pos : Pos}
/-- whoever reads needs no more -/
theorem Ev.r (h : Ev X H0 Oc Γ e s) (hd : s.dat = some d := by rfl) : Ev X H0 Oc Γ e (.bw d) := fun Δ τ σ H Q hl W q => h Δ τ σ H Q hl W fun v H' ⟨O, W'⟩ => q v H' ⟨O, W'.tobw hd⟩
theorem Ev.fz (h : Ev X H0 Oc Γ e (.ow d)) : Ev X H0 Oc Γ e (.va d) := fun Δ τ σ H Q hl W q => h Δ τ σ H Q hl W fun v H' ⟨O, W'⟩ => q v H' W'.freeze
theorem Ev.as {d' : D} (h : Ev X H0 Oc Γ e (.va d)) (hd : d = d') : Ev X H0 Oc Γ e (.va d') := hd ▸ h
theorem Ev.aso {d' : D} (h : Ev X H0 Oc Γ e (.ow d)) (hd : d = d') : Ev X H0 Oc Γ e (.ow d') := hd ▸ h
theorem Ev.fl (h : Ev X H0 Oc Γ e (.bw d)) (hf : flatD d = true := by rfl) : Ev X H0 Oc Γ e (.va d) := fun Δ τ σ H Q hl W q => h Δ τ σ H Q hl W fun v H' ⟨O, W'⟩ => by
  obtain ⟨u, h1, h2⟩ := W'.head
  cases h1
  exact q v H' ⟨O, W'.pop.flat hf (h2.flat hf)⟩
theorem Et.as {c c' : Bool} (h : Et X H0 Oc Γ e c) (hd : c = c') : Et X H0 Oc Γ e c' := hd ▸ h
/-! ### constants, names -/
theorem ev_flat {t : TE} {v : V} (h : PE X e t) (ht : ∀ σ H Q, Q v H → t σ H Q) (hf : flatD d = true) (hr : ∀ H, Rep X.K H d v) : Ev X H0 Oc Γ e (.va d) := fun Δ τ σ H Q hl W q =>
  wpE.of h (ht σ H Q (q v H (let ⟨O, W'⟩ := W; ⟨O, W'.flat hf (hr H)⟩)))
theorem ev_int {i : Int} {k pos} : Ev X H0 Oc Γ (.Constant (.int i) k pos) (.va (.int i)) := ev_flat pe_int (fun _ _ _ q => q) rfl fun _ => rfl
theorem ev_bl {c : Bool} {k pos} : Ev X H0 Oc Γ (.Constant (.bool c) k pos) (.va (.bl c)) := ev_flat pe_bl (fun _ _ _ q => q) rfl fun _ => rfl
theorem ev_non {k pos} : Ev X H0 Oc Γ (.Constant .none k pos) (.va .non) := ev_flat pe_non (fun _ _ _ q => q) rfl fun _ => rfl
theorem ev_str {x : Str} {k pos} : Ev X H0 Oc Γ (.Constant (.str x) k pos) (.va (.str x)) := ev_flat pe_str (fun _ _ _ q => q) rfl fun _ => rfl
theorem len_app {Δ : List Sl} {τ : List (Option V)} (hl : τ.length = Δ.length) {n : Nat} {σ : L2.St} {s : Sl} (h : Γ[n]? = some s) : (Δ ++ Γ)[Δ.length + n]? = some s ∧ (τ ++ σ)[Δ.length + n]? = σ[n]? := by
  refine ⟨by rw [List.getElem?_append_right (by omega)]; simpa using h, ?_⟩
  rw [List.getElem?_append_right (by omega)]
  congr 1
  omega
theorem slot_of {Δ : List Sl} {τ : List (Option V)} {σ : L2.St} {H : Hp} {O : List Addr} {n : Nat} (hl : τ.length = Δ.length) (W : WfO X.K H0 Oc O (Δ ++ Γ) (τ ++ σ) H) (h : Γ[n]? = some s) : ∃ x, σ[n]? = some x ∧ SlOk X.K H0 O H s x := by
  obtain ⟨h1, h2⟩ := len_app (σ := σ) hl h
  have hn : Δ.length + n < (τ ++ σ).length := by
    rw [W.len]
    exact (List.getElem?_eq_some_iff.mp h1).1
  obtain ⟨x, hx⟩ : ∃ x, (τ ++ σ)[Δ.length + n]? = some x := ⟨_, List.getElem?_eq_getElem hn⟩
  exact ⟨x, h2 ▸ hx, W.ok _ _ _ h1 hx⟩
/-- how a name's slot is read -/
def Sl.rd : Sl → Sl
  | .ow d => .bw d
  | s => s
theorem ev_var (n : Nat) {x : Str} (h : Γ[n]? = some s) (hs : s ≠ .no) (hN : X.N[n]? = some x) (hv : Vis X.env.scope x) (hd : (x == ("__debug__" : Str)) = false) (hcd : (x == ("__classdict__" : Str)) = false) : Ev X H0 Oc Γ (.Name x pos) s.rd := fun Δ τ σ H Q hl W q => by
  obtain ⟨O, W⟩ := W
  obtain ⟨y, hy, ok⟩ := slot_of hl W h
  cases s with
  | no => exact absurd rfl hs
  | va d =>
    obtain ⟨v, rfl, hv'⟩ := ok
    exact wpE.of (pe_var hN hv hd hcd) ⟨v, hy, q v H ⟨O, W.push ⟨v, rfl, hv'⟩ fun _ z => nomatch z⟩⟩
  | br d =>
    obtain ⟨v, rfl, hv'⟩ := ok
    exact wpE.of (pe_var hN hv hd hcd) ⟨v, hy, q v H ⟨O, W.push ⟨v, rfl, hv'⟩ fun _ z => nomatch z⟩⟩
  | bw d =>
    obtain ⟨v, rfl, hv'⟩ := ok
    exact wpE.of (pe_var hN hv hd hcd) ⟨v, hy, q v H ⟨O, W.push ⟨v, rfl, hv'⟩ fun _ z => nomatch z⟩⟩
  | ow d =>
    obtain ⟨p, o, rfl, h2, h3, h4, h5⟩ := ok
    exact wpE.of (pe_var hN hv hd hcd) ⟨.ref p, hy, q (.ref p) H ⟨O, W.push ⟨.ref p, rfl, RepH.b h5 h4⟩ fun _ z => nomatch z⟩⟩
/-! ### two operands, one operand -/
theorem ev_op2 {r : R2} {s1 s2 : Sl} (hp : ∀ {ta tb : TE}, PE X a ta → PE X b tb → PE X e (tOp r ta tb)) (ha : Ev X H0 Oc Γ a s1) (hb : Ev X H0 Oc Γ b s2)
    (hr : ∀ (G : List Sl) (S : List (Option V)) (H : Hp) (v w : V) (Q : VK), Wf X.K H0 Oc (s2 :: s1 :: G) (some w :: some v :: S) H → (∀ u H', Wf X.K H0 Oc (s :: G) (some u :: S) H' → Q u H') → r v w H Q) : Ev X H0 Oc Γ e s := fun Δ τ σ H Q hl W q => by
  refine wpE.of (hp pe_wp pe_wp) ?_
  refine ha Δ τ σ H _ hl W fun v H1 W1 => ?_
  refine hb (s1 :: Δ) (some v :: τ) σ H1 _ (by simp [hl]) W1 fun w H2 W2 => ?_
  exact hr _ _ H2 v w Q W2 q
theorem bw2 {K : PySem.W.Frag} {O : List Addr} {d1 d2 : D} {G : List Sl} {S : List (Option V)} {H : Hp} {v w : V} (W : WfO K H0 Oc O (.bw d2 :: .bw d1 :: G) (some w :: some v :: S) H) : RepB K H (cut H O) d1 v ∧ RepB K H (cut H O) d2 w ∧ WfO K H0 Oc O G S H := by
  obtain ⟨u, h1, h2⟩ := W.head
  obtain ⟨u', h1', h2'⟩ := W.pop.head
  cases h1
  cases h1'
  exact ⟨h2', h2, W.pop.pop⟩
theorem va2 {K : PySem.W.Frag} {O : List Addr} {d1 d2 : D} {G : List Sl} {S : List (Option V)} {H : Hp} {v w : V} (W : WfO K H0 Oc O (.va d2 :: .va d1 :: G) (some w :: some v :: S) H) : Rep K (cut H O) d1 v ∧ Rep K (cut H O) d2 w ∧ WfO K H0 Oc O G S H := by
  obtain ⟨u, h1, h2⟩ := W.head
  obtain ⟨u', h1', h2'⟩ := W.pop.head
  cases h1
  cases h1'
  exact ⟨h2', h2, W.pop.pop⟩
end
end Y

namespace Y
open PySem L2
section
variable {X : Cx} {H0 : Hp} {Oc : List Addr} {Γ : List Sl} {e a b c : Expr} {es : List Expr} {s s1 s2 : Sl} {d d1 d2 : D} {i j : Int} {pos p2 : Pos}
/-! ### whole numbers -/
theorem ev_ii0 {f : Operator} {g : Int → Int → V} {g' : Int → Int → D} (ho : OpR X (binaryOp f) (rI0 g)) (ha : Ev X H0 Oc Γ a (.va (.int i))) (hb : Ev X H0 Oc Γ b (.va (.int j))) (hf : flatD (g' i j) = true) (hr : ∀ H, Rep X.K H (g' i j) (g i j)) :
    Ev X H0 Oc Γ (.BinOp a f b pos) (.va (g' i j)) := ev_op2 (fun ha hb => pe_op ho ha hb) ha hb fun G S H v w Q ⟨O, W⟩ q => by
  obtain ⟨h1, h2, W'⟩ := va2 W
  exact ⟨i, j, h1, h2, q _ H ⟨O, W'.flat hf (hr H)⟩⟩
theorem ev_ii {f : Operator} {C : Int → Int → Prop} {g : Int → Int → V} {g' : Int → Int → D} (ho : OpR X (binaryOp f) (rI C g)) (ha : Ev X H0 Oc Γ a (.va (.int i))) (hb : Ev X H0 Oc Γ b (.va (.int j))) (hc : C i j) (hf : flatD (g' i j) = true) (hr : ∀ H, Rep X.K H (g' i j) (g i j)) :
    Ev X H0 Oc Γ (.BinOp a f b pos) (.va (g' i j)) := ev_op2 (fun ha hb => pe_op ho ha hb) ha hb fun G S H v w Q ⟨O, W⟩ q => by
  obtain ⟨h1, h2, W'⟩ := va2 W
  exact ⟨i, j, h1, h2, hc, q _ H ⟨O, W'.flat hf (hr H)⟩⟩
theorem ev_add (ha : Ev X H0 Oc Γ a (.va (.int i))) (hb : Ev X H0 Oc Γ b (.va (.int j))) : Ev X H0 Oc Γ (.BinOp a .Add b pos) (.va (.int (i + j))) := ev_ii0 (g' := fun i j => .int (i + j)) op_add ha hb rfl fun _ => rfl
theorem ev_sub (ha : Ev X H0 Oc Γ a (.va (.int i))) (hb : Ev X H0 Oc Γ b (.va (.int j))) : Ev X H0 Oc Γ (.BinOp a .Sub b pos) (.va (.int (i - j))) := ev_ii0 (g' := fun i j => .int (i - j)) op_sub ha hb rfl fun _ => rfl
theorem ev_mul (ha : Ev X H0 Oc Γ a (.va (.int i))) (hb : Ev X H0 Oc Γ b (.va (.int j))) (hc : CMul i j) : Ev X H0 Oc Γ (.BinOp a .Mult b pos) (.va (.int (i * j))) := ev_ii (g' := fun i j => .int (i * j)) op_mul ha hb hc rfl fun _ => rfl
theorem ev_fdiv (ha : Ev X H0 Oc Γ a (.va (.int i))) (hb : Ev X H0 Oc Γ b (.va (.int j))) (hc : CDiv i j) : Ev X H0 Oc Γ (.BinOp a .FloorDiv b pos) (.va (.int (i / j))) := ev_ii (g' := fun i j => .int (i / j)) op_fdiv ha hb hc rfl fun _ => rfl
theorem ev_mod (ha : Ev X H0 Oc Γ a (.va (.int i))) (hb : Ev X H0 Oc Γ b (.va (.int j))) (hc : 0 < j) : Ev X H0 Oc Γ (.BinOp a .Mod b pos) (.va (.int (i % j))) := ev_ii (g' := fun i j => .int (i % j)) op_mod ha hb hc rfl fun _ => rfl
theorem ev_pow (ha : Ev X H0 Oc Γ a (.va (.int i))) (hb : Ev X H0 Oc Γ b (.va (.int j))) (hc : CPow i j) : Ev X H0 Oc Γ (.BinOp a .Pow b pos) (.va (.int (i ^ j.toNat))) := ev_ii (g' := fun i j => .int (i ^ j.toNat)) op_pow ha hb hc rfl fun _ => rfl
theorem ev_op1 {r : V → Hp → VK → Prop} (hp : ∀ {ta : TE}, PE X a ta → PE X e (tUn r ta)) (ha : Ev X H0 Oc Γ a s1)
    (hr : ∀ (G : List Sl) (S : List (Option V)) (H : Hp) (v : V) (Q : VK), Wf X.K H0 Oc (s1 :: G) (some v :: S) H → (∀ u H', Wf X.K H0 Oc (s :: G) (some u :: S) H' → Q u H') → r v H Q) : Ev X H0 Oc Γ e s := fun Δ τ σ H Q hl W q =>
  wpE.of (hp pe_wp) (ha Δ τ σ H _ hl W fun v H1 W1 => hr _ _ H1 v Q W1 q)
theorem ev_neg (ha : Ev X H0 Oc Γ a (.va (.int i))) : Ev X H0 Oc Γ (.UnaryOp .USub a pos) (.va (.int (-i))) := ev_op1 (fun h => pe_un un_neg h) ha fun G S H v Q ⟨O, W⟩ q => by
  obtain ⟨u, h1, h2⟩ := W.head
  cases h1
  exact ⟨i, h2, q _ H ⟨O, W.pop.flat rfl (show Rep X.K H (.int (-i)) (.int (-i)) from rfl)⟩⟩
/-! ### comparisons -/
/-- a comparison, by the slots of its two sides -/
def C2 (X : Cx) (H0 : Hp) (Oc : List Addr) (f : CmpOp) (s1 s2 : Sl) (k : Bool) : Prop := ∃ r : R2, OpR X (compareOp f) r ∧
  ∀ (G : List Sl) (S : List (Option V)) (H : Hp) (v w : V) (Q : VK), Wf X.K H0 Oc (s2 :: s1 :: G) (some w :: some v :: S) H → (∀ H', Wf X.K H0 Oc G S H' → Q (.bl k) H') → r v w H Q
theorem ev_c {f : CmpOp} {k : Bool} (hc : C2 X H0 Oc f s1 s2 k) (ha : Ev X H0 Oc Γ a s1) (hb : Ev X H0 Oc Γ b s2) (hm : behindInMarks f b = false := by first | exact nomark _ | rfl) : Ev X H0 Oc Γ (.Compare a [f] [b] pos) (.va (.bl k)) := by
  obtain ⟨r, ho, hr⟩ := hc
  exact ev_op2 (fun ha hb => pe_cmpR ho ha hb hm) ha hb fun G S H v w Q W q => hr G S H v w Q W fun H' ⟨O, W'⟩ => q _ H' ⟨O, W'.flat rfl (show Rep X.K H' (.bl k) (.bl k) from rfl)⟩
theorem et_c {f : CmpOp} {k : Bool} (hc : C2 X H0 Oc f s1 s2 k) (ha : Ev X H0 Oc Γ a s1) (hb : Ev X H0 Oc Γ b s2) (hm : behindInMarks f b = false := by first | exact nomark _ | rfl) : Et X H0 Oc Γ (.Compare a [f] [b] pos) k := by
  obtain ⟨r, ho, hr⟩ := hc
  intro Δ τ σ H Q hl W q
  refine wpT.of (pt_cmpR ho pe_wp pe_wp hm) ?_
  refine ha Δ τ σ H _ hl W fun v H1 W1 => ?_
  refine hb (s1 :: Δ) (some v :: τ) σ H1 _ (by simp [hl]) W1 fun w H2 W2 => ?_
  exact hr _ _ H2 v w _ W2 fun H' W' => ⟨k, rfl, q H' W'⟩
theorem cm_ii {f : CmpOp} {p : Int → Int → Bool} (ho : OpR X (compareOp f) (rI0 fun i j => .bl (p i j))) : C2 X H0 Oc f (.va (.int i)) (.va (.int j)) (p i j) := ⟨_, ho, fun G S H v w Q ⟨O, W⟩ q => by
  obtain ⟨h1, h2, W'⟩ := va2 W
  exact ⟨i, j, h1, h2, q H ⟨O, W'⟩⟩⟩
theorem cm_lt : C2 X H0 Oc .Lt (.va (.int i)) (.va (.int j)) (decide (i < j)) := cm_ii (p := fun i j => decide (i < j)) op_lt
theorem cm_le : C2 X H0 Oc .LtE (.va (.int i)) (.va (.int j)) (decide (i ≤ j)) := cm_ii (p := fun i j => decide (i ≤ j)) op_le
theorem cm_gt : C2 X H0 Oc .Gt (.va (.int i)) (.va (.int j)) (decide (j < i)) := cm_ii (p := fun i j => decide (j < i)) op_gt
theorem cm_ge : C2 X H0 Oc .GtE (.va (.int i)) (.va (.int j)) (decide (j ≤ i)) := cm_ii (p := fun i j => decide (j ≤ i)) op_ge
/-- values that stand alone -/
def vD : D → V
  | .bl b => .bl b
  | .int i => .int i
  | .str x => .str x
  | _ => .non
def scD : D → Bool
  | .non | .bl _ | .int _ | .str _ => true
  | _ => false
theorem Rep.vD {K : PySem.W.Frag} {H : Hp} {v : V} (h : Rep K H d v) (hs : scD d = true) : v = vD d := by cases d <;> first | exact h | exact absurd hs Bool.false_ne_true
def eqS (d1 d2 : D) : Bool := decide (vD d1 = vD d2)
theorem eqS_int : eqS (.int i) (.int j) = decide (i = j) := by unfold eqS vD; simp
theorem eqS_bl {x y : Bool} : eqS (.bl x) (.bl y) = decide (x = y) := by unfold eqS vD; simp
theorem eqS_str {x y : Str} : eqS (.str x) (.str y) = decide (x = y) := by unfold eqS vD; simp
theorem cm_eqS (h1 : scD d1 = true) (h2 : scD d2 = true) (hs : scal (vD d1) (vD d2) = true) : C2 X H0 Oc .Eq (.va d1) (.va d2) (eqS d1 d2) := ⟨_, op_eq, fun G S H v w Q ⟨O, W⟩ q => by
  obtain ⟨r1, r2, W'⟩ := va2 W
  obtain rfl := r1.vD h1
  obtain rfl := r2.vD h2
  exact ⟨hs, q H ⟨O, W'⟩⟩⟩
theorem cm_neS (h1 : scD d1 = true) (h2 : scD d2 = true) (hs : scal (vD d1) (vD d2) = true) : C2 X H0 Oc .NotEq (.va d1) (.va d2) (!eqS d1 d2) := ⟨_, op_ne, fun G S H v w Q ⟨O, W⟩ q => by
  obtain ⟨r1, r2, W'⟩ := va2 W
  obtain rfl := r1.vD h1
  obtain rfl := r2.vD h2
  exact ⟨hs, q H ⟨O, W'⟩⟩⟩
theorem cm_eqI : C2 X H0 Oc .Eq (.va (.int i)) (.va (.int j)) (decide (i = j)) := eqS_int (i := i) (j := j) ▸ cm_eqS rfl rfl rfl
theorem cm_neI : C2 X H0 Oc .NotEq (.va (.int i)) (.va (.int j)) (!decide (i = j)) := eqS_int (i := i) (j := j) ▸ cm_neS rfl rfl rfl
theorem cm_eqB {x y : Bool} : C2 X H0 Oc .Eq (.va (.bl x)) (.va (.bl y)) (decide (x = y)) := eqS_bl (x := x) (y := y) ▸ cm_eqS rfl rfl rfl
theorem cm_neB {x y : Bool} : C2 X H0 Oc .NotEq (.va (.bl x)) (.va (.bl y)) (!decide (x = y)) := eqS_bl (x := x) (y := y) ▸ cm_neS rfl rfl rfl
theorem cm_eqT {x y : Str} : C2 X H0 Oc .Eq (.va (.str x)) (.va (.str y)) (decide (x = y)) := eqS_str (x := x) (y := y) ▸ cm_eqS rfl rfl rfl
theorem cm_neT {x y : Str} : C2 X H0 Oc .NotEq (.va (.str x)) (.va (.str y)) (!decide (x = y)) := eqS_str (x := x) (y := y) ▸ cm_neS rfl rfl rfl
/-! data of any depth -/
mutual
def py : D → PyData
  | .bl b => .bool b
  | .int i => .int i
  | .str x => .str x
  | .tup ds => .tuple (pys ds)
  | .lst ds => .list (pys ds)
  | .fz ds => .list (pys ds)
  | _ => .none
def pys : List D → List PyData
  | [] => []
  | d :: ds => py d :: pys ds
end
mutual
def isPy : D → Bool
  | .non | .bl _ | .int _ | .str _ => true
  | .tup ds => isPys ds
  | .lst ds => isPys ds
  | .fz ds => isPys ds
  | _ => false
def isPys : List D → Bool
  | [] => true
  | d :: ds => isPy d && isPys ds
end
section
variable {K : PySem.W.Frag} {H Ht : Hp}
mutual
theorem Rep.dp : ∀ {d : D} {v : V}, Rep K H d v → isPy d = true → Dp K H v (py d)
  | .non, _, h, _ => by rw [show _ = _ from h]; exact .non
  | .bl _, _, h, _ => by rw [show _ = _ from h]; exact .bl _
  | .int _, _, h, _ => by rw [show _ = _ from h]; exact .int _
  | .str _, _, h, _ => by rw [show _ = _ from h]; exact .str _
  | .tup ds, _, ⟨a, vs, h1, h2, h3⟩, hp => by rw [h1]; exact .tup (.of h2) (Reps.dp h3 hp)
  | .lst ds, _, ⟨a, vs, h1, h2, h3⟩, hp => by rw [h1]; exact .lst (.of h2) (Reps.dp h3 hp)
  | .fz ds, _, ⟨a, vs, h1, h2, h3⟩, hp => by rw [h1]; exact .lst h2 (Reps.dp h3 hp)
  | .opq _, _, _, hp => absurd hp Bool.false_ne_true
  | .obj .., _, _, hp => absurd hp Bool.false_ne_true
  | .xd .., _, _, hp => absurd hp Bool.false_ne_true
  | .dT .., _, _, hp => absurd hp Bool.false_ne_true
  | .dK .., _, _, hp => absurd hp Bool.false_ne_true
theorem Reps.dp : ∀ {ds : List D} {vs : List V}, Reps K H ds vs → isPys ds = true → DpAll K H vs (pys ds)
  | [], _, h, _ => by rw [show _ = _ from h]; exact .nil
  | d :: ds, _, ⟨v, us, h1, h2, h3⟩, hp => by
    rw [h1]
    have hp' := Bool.and_eq_true_iff.mp hp
    exact .cons (Rep.dp h2 hp'.1) (Reps.dp h3 hp'.2)
end
theorem DpAll.grow (e : Ex H Ht) {vs : List V} {ds : List PyData} (h : DpAll K H vs ds) : DpAll K Ht vs ds := by
  refine DpAll.rec (motive_1 := fun v d _ => Dp K Ht v d) (motive_2 := fun vs ds _ => DpAll K Ht vs ds) .non .bl .int .str (fun h _ ih => .lst (Ex.l e h) ih) (fun h _ ih => .tup (Ex.t e h) ih) .nil (fun _ _ i1 i2 => .cons i1 i2) h
theorem RepB.dp (e : Ex H Ht) : ∀ {d : D} {v : V}, RepB K Ht H d v → isPy d = true → Dp K Ht v (py d)
  | .non, _, h, _ => by rw [show _ = _ from h]; exact .non
  | .bl _, _, h, _ => by rw [show _ = _ from h]; exact .bl _
  | .int _, _, h, _ => by rw [show _ = _ from h]; exact .int _
  | .str _, _, h, _ => by rw [show _ = _ from h]; exact .str _
  | .tup ds, _, ⟨a, vs, h1, h2, h3⟩, hp => by rw [h1]; exact .tup (.of h2) (Y.DpAll.grow e (Reps.dp h3 hp))
  | .lst ds, _, ⟨a, vs, h1, h2, h3⟩, hp => by rw [h1]; exact .lst (.of h2) (Y.DpAll.grow e (Reps.dp h3 hp))
  | .fz ds, _, ⟨a, vs, h1, h2, h3⟩, hp => by rw [h1]; exact .lst h2 (Y.DpAll.grow e (Reps.dp h3 hp))
  | .opq _, _, _, hp => absurd hp Bool.false_ne_true
  | .obj .., _, _, hp => absurd hp Bool.false_ne_true
  | .xd .., _, _, hp => absurd hp Bool.false_ne_true
  | .dT .., _, _, hp => absurd hp Bool.false_ne_true
  | .dK .., _, _, hp => absurd hp Bool.false_ne_true
end
/-- d1 == d2 as Python has it -/
def eqD (d1 d2 : D) : Bool := PyData.eqv (py d1) (py d2)
/-- comparable data -/
def okD (d : D) : Bool := isPy d && SeqAt.shaped (py d)
theorem cm_eqD (hu : X.A.units + 64 < cLine) (h1 : okD d1 = true) (h2 : okD d2 = true) : C2 X H0 Oc .Eq (.bw d1) (.bw d2) (eqD d1 d2) := ⟨_, op_eqD hu, fun G S H v w Q ⟨O, W⟩ q => by
  obtain ⟨r1, r2, W'⟩ := bw2 W
  have q1 := Bool.and_eq_true_iff.mp h1
  have q2 := Bool.and_eq_true_iff.mp h2
  exact ⟨_, _, r1.dp cut_ex q1.1, r2.dp cut_ex q2.1, q1.2, q2.2, q H ⟨O, W'⟩⟩⟩
theorem cm_neD (hu : X.A.units + 64 < cLine) (h1 : okD d1 = true) (h2 : okD d2 = true) : C2 X H0 Oc .NotEq (.bw d1) (.bw d2) (!eqD d1 d2) := ⟨_, op_neD hu, fun G S H v w Q ⟨O, W⟩ q => by
  obtain ⟨r1, r2, W'⟩ := bw2 W
  have q1 := Bool.and_eq_true_iff.mp h1
  have q2 := Bool.and_eq_true_iff.mp h2
  exact ⟨_, _, r1.dp cut_ex q1.1, r2.dp cut_ex q2.1, q1.2, q2.2, q H ⟨O, W'⟩⟩⟩
/-! ### tests -/
theorem et_val {q : Bool} (h : Ev X H0 Oc Γ e (.va (.bl q))) (he : ∀ whole, isTrue e X.env whole = (do let v ← whole; standAt e.pos; holding [v] (truthy v)) := by intro _; rfl) : Et X H0 Oc Γ e q := fun Δ τ σ H Q hl W k =>
  wpT.of (pt_val pe_wp he) (h Δ τ σ H _ hl W fun v H' ⟨O, W'⟩ => by
    obtain ⟨u, h1, h2⟩ := W'.head
    cases h1
    exact ⟨q, h2, k H' ⟨O, W'.pop⟩⟩)
theorem et_not {q : Bool} (h : Et X H0 Oc Γ e q) : Et X H0 Oc Γ (.UnaryOp .Not e pos) (!q) := fun Δ τ σ H Q hl W k => wpT.of (pt_not pt_wp) (h Δ τ σ H _ hl W fun H' W' => k H' W')
theorem et_w {q : Bool} (h : Ew X H0 Oc Γ e q) : Et X H0 Oc Γ e q := fun Δ τ σ H Q hl W k pins s I => h Δ τ σ H Q hl W k _ pins s I
theorem ew_and1 {q : Bool} (h : Et X H0 Oc Γ a q) : Ew X H0 Oc Γ (.BoolOp .And [a] pos) q := fun Δ τ σ H Q hl W k => wpW.of (pw_and1 pt_wp) (h Δ τ σ H _ hl W k)
theorem ew_or1 {q : Bool} (h : Et X H0 Oc Γ a q) : Ew X H0 Oc Γ (.BoolOp .Or [a] pos) q := fun Δ τ σ H Q hl W k => wpW.of (pw_or1 pt_wp) (h Δ τ σ H _ hl W k)
theorem ew_and {q r : Bool} (h : Et X H0 Oc Γ a q) (hr : q = true → Ew X H0 Oc Γ (.BoolOp .And (b :: es) pos) r) : Ew X H0 Oc Γ (.BoolOp .And (a :: b :: es) pos) (q && r) := fun Δ τ σ H Q hl W k =>
  wpW.of (pw_and pt_wp pw_wp) (h Δ τ σ H _ hl W fun H' W' => by
    cases q with
    | true => exact hr rfl Δ τ σ H' Q hl W' k
    | false => exact k H' W')
theorem ew_or {q r : Bool} (h : Et X H0 Oc Γ a q) (hr : q = false → Ew X H0 Oc Γ (.BoolOp .Or (b :: es) pos) r) : Ew X H0 Oc Γ (.BoolOp .Or (a :: b :: es) pos) (q || r) := fun Δ τ σ H Q hl W k =>
  wpW.of (pw_or pt_wp pw_wp) (h Δ τ σ H _ hl W fun H' W' => by
    cases q with
    | false => exact hr rfl Δ τ σ H' Q hl W' k
    | true => exact k H' W')
/-- .. as values -/
theorem ev_one {op : BoolOp} (h : Ev X H0 Oc Γ a s) : Ev X H0 Oc Γ (.BoolOp op [a] pos) s := fun Δ τ σ H Q hl W k => wpE.of (pe_one pe_wp) (h Δ τ σ H Q hl W k)
theorem ev_and {q r : Bool} (h : Ev X H0 Oc Γ a (.va (.bl q))) (hr : q = true → Ev X H0 Oc Γ (.BoolOp .And (b :: es) pos) (.va (.bl r))) : Ev X H0 Oc Γ (.BoolOp .And (a :: b :: es) pos) (.va (.bl (q && r))) := fun Δ τ σ H Q hl W k =>
  wpE.of (pe_and pe_wp pe_wp) (h Δ τ σ H _ hl W fun v H' ⟨O, W'⟩ => by
    obtain ⟨u, h1, h2⟩ := W'.head
    cases h1
    refine ⟨q, h2, ?_⟩
    cases q with
    | true => exact hr rfl Δ τ σ H' Q hl ⟨O, W'.pop⟩ k
    | false => exact k _ H' ⟨O, W'.pop.flat rfl (show Rep X.K H' (.bl false) (.bl false) from rfl)⟩)
theorem ev_or {q r : Bool} (h : Ev X H0 Oc Γ a (.va (.bl q))) (hr : q = false → Ev X H0 Oc Γ (.BoolOp .Or (b :: es) pos) (.va (.bl r))) : Ev X H0 Oc Γ (.BoolOp .Or (a :: b :: es) pos) (.va (.bl (q || r))) := fun Δ τ σ H Q hl W k =>
  wpE.of (pe_or pe_wp pe_wp) (h Δ τ σ H _ hl W fun v H' ⟨O, W'⟩ => by
    obtain ⟨u, h1, h2⟩ := W'.head
    cases h1
    refine ⟨q, h2, ?_⟩
    cases q with
    | false => exact hr rfl Δ τ σ H' Q hl ⟨O, W'.pop⟩ k
    | true => exact k _ H' ⟨O, W'.pop.flat rfl (show Rep X.K H' (.bl true) (.bl true) from rfl)⟩)
theorem ev_not {q : Bool} (h : Ev X H0 Oc Γ a (.va (.bl q))) : Ev X H0 Oc Γ (.UnaryOp .Not a pos) (.va (.bl (!q))) := fun Δ τ σ H Q hl W k =>
  wpE.of (pe_not pe_wp) (h Δ τ σ H _ hl W fun v H' ⟨O, W'⟩ => by
    obtain ⟨u, h1, h2⟩ := W'.head
    cases h1
    exact ⟨q, h2, k _ H' ⟨O, W'.pop.flat rfl (show Rep X.K H' (.bl (!q)) (.bl (!q)) from rfl)⟩⟩)
theorem ev_if {q : Bool} (h : Et X H0 Oc Γ c q) (h1 : q = true → Ev X H0 Oc Γ a s) (h2 : q = false → Ev X H0 Oc Γ b s) : Ev X H0 Oc Γ (.IfExp c a b pos) s := fun Δ τ σ H Q hl W k =>
  wpE.of (pe_ifExp pt_wp pe_wp pe_wp) (h Δ τ σ H _ hl W fun H' W' => by
    cases q with
    | true => exact h1 rfl Δ τ σ H' Q hl W' k
    | false => exact h2 rfl Δ τ σ H' Q hl W' k)
/-- is None -/
def isN : D → Bool
  | .non => true
  | .opq v => decide (v = .non)
  | _ => false
theorem RepB.isN {K : PySem.W.Frag} {Ht H : Hp} {v : V} (h : RepB K Ht H d v) : decide (v = .non) = isN d := by
  cases d with
  | non => rw [show v = .non from h]; rfl
  | opq w => rw [show v = w from h]; rfl
  | bl _ => rw [show v = _ from h]; rfl
  | int _ => rw [show v = _ from h]; rfl
  | str _ => rw [show v = _ from h]; rfl
  | tup ds => obtain ⟨p, _, h, _⟩ := h; rw [h]; rfl
  | lst ds => obtain ⟨p, _, h, _⟩ := h; rw [h]; rfl
  | fz ds => obtain ⟨p, _, h, _⟩ := h; rw [h]; rfl
  | obj C ns ds => obtain ⟨p, _, _, h, _⟩ := h; rw [h]; rfl
  | xd ns ds => obtain ⟨p, _, h, _⟩ := h; rw [h]; rfl
  | dT ns ds => obtain ⟨p, _, h, _⟩ := h; rw [h]; rfl
  | dK ns ds => obtain ⟨p, _, h, _⟩ := h; rw [h]; rfl
  | er a C p ns ds => obtain ⟨_, h, _⟩ := h; rw [h]; rfl
  | slf a C ns ds => obtain ⟨_, _, h, _⟩ := h; rw [h]; rfl
theorem Wf.popB {G : List Sl} {S : List (Option V)} {H : Hp} {v : V} (W : Wf X.K H0 Oc (.bw d :: G) (some v :: S) H) : (∃ O, RepB X.K H (cut H O) d v) ∧ Wf X.K H0 Oc G S H := by
  obtain ⟨O, W⟩ := W
  obtain ⟨u, h1, h2⟩ := W.head
  cases h1
  exact ⟨⟨O, h2⟩, O, W.pop⟩
theorem Wf.bl {G : List Sl} {S : List (Option V)} {H : Hp} {q : Bool} (W : Wf X.K H0 Oc G S H) : Wf X.K H0 Oc (.va (.bl q) :: G) (some (.bl q) :: S) H := let ⟨O, W⟩ := W; ⟨O, W.flat rfl (show Rep X.K H (.bl q) (.bl q) from rfl)⟩
theorem ev_isN (ha : Ev X H0 Oc Γ a (.bw d)) {k pos'} : Ev X H0 Oc Γ (.Compare a [.Is] [.Constant .none k pos'] pos) (.va (.bl (isN d))) := fun Δ τ σ H Q hl W q =>
  wpE.of (pe_cmp (pc_isN pe_wp) rfl) (ha Δ τ σ H _ hl W fun v H' W' => by
    obtain ⟨⟨O, h⟩, W2⟩ := W'.popB
    rw [h.isN]
    exact q _ H' W2.bl)
theorem et_isN (ha : Ev X H0 Oc Γ a (.bw d)) {k pos'} : Et X H0 Oc Γ (.Compare a [.Is] [.Constant .none k pos'] pos) (isN d) := fun Δ τ σ H Q hl W q =>
  wpT.of (pt_cmp (pc_isN pe_wp) rfl) (ha Δ τ σ H _ hl W fun v H' W' => by
    obtain ⟨⟨O, h⟩, W2⟩ := W'.popB
    exact ⟨_, rfl, by rw [h.isN]; exact q H' W2⟩)
theorem et_notN (ha : Ev X H0 Oc Γ a (.bw d)) {k pos'} : Et X H0 Oc Γ (.Compare a [.IsNot] [.Constant .none k pos'] pos) (!isN d) := fun Δ τ σ H Q hl W q =>
  wpT.of (pt_cmp (pc_notN pe_wp) rfl) (ha Δ τ σ H _ hl W fun v H' W' => by
    obtain ⟨⟨O, h⟩, W2⟩ := W'.popB
    exact ⟨_, rfl, by rw [h.isN]; exact q H' W2⟩)
/-! ### arguments, displays -/
theorem ea_nil : Ea X H0 Oc Γ [] [] := fun Δ τ σ H Q hl ⟨O, W⟩ k => wpA.of pa_nil (k [] O H W rfl)
theorem ea_cons (ha : Ev X H0 Oc Γ a s) (hr : Ea X H0 Oc Γ es ss) (hst : starEach (a :: es) X.env = (false, eval a X.env) :: starEach es X.env := by rfl) : Ea X H0 Oc Γ (a :: es) (s :: ss) := fun Δ τ σ H Q hl W k =>
  wpA.of (pa_cons pe_wp pa_wp hst) (ha Δ τ σ H _ hl W fun v H1 W1 => hr (s :: Δ) (some v :: τ) σ H1 _ (by simp [hl]) W1 fun vs O H2 W2 ok => k (v :: vs) O H2 W2.pop ⟨v, vs, rfl, W2.head, ok⟩)
end
end Y

namespace Y
open PySem L2
section
variable {X : Cx} {H0 : Hp} {Oc : List Addr} {Γ : List Sl} {e a b c : Expr} {es : List Expr} {s s1 s2 : Sl} {ss : List Sl} {d d1 d2 : D} {ds ds1 ds2 : List D} {i j : Int} {pos p2 : Pos}
/-! ### displays -/
/-- slots whose objects are all given up at once -/
def dats : List Sl → Option (List D)
  | [] => some []
  | .va d :: ss => (dats ss).map (d :: ·)
  | _ => none
theorem ArgsOk.reps {K : PySem.W.Frag} {O : List Addr} {H : Hp} : ∀ {ss : List Sl} {vs : List V} {ds : List D}, ArgsOk K H0 O H ss vs → dats ss = some ds → Reps K (cut H O) ds vs
  | [], _, _, h, e => by
    cases e
    exact h
  | .va d :: ss, _, _, ⟨v, us, h1, ⟨w, h2, h3⟩, h4⟩, e => by
    cases q : dats ss with
    | none => simp [dats, q] at e
    | some es =>
      simp only [dats, q, Option.map_some, Option.some.injEq] at e
      subst e
      cases h2
      exact ⟨v, us, h1, h3, ArgsOk.reps h4 q⟩
  | .no :: _, _, _, _, e => by cases e
  | .ow _ :: _, _, _, _, e => by cases e
  | .br _ :: _, _, _, _, e => by cases e
  | .bw _ :: _, _, _, _, e => by cases e
theorem Reps.len' {K : PySem.W.Frag} {H : Hp} {vs : List V} (h : Reps K H ds vs) (hn : ds.length ≤ 1000000) : vs.length ≤ sizeLine := by
  rw [Reps.len h, sizeLine_eq]
  omega
theorem ev_tup {x1} (h : Ea X H0 Oc Γ es ss) (hd : dats ss = some ds) (hn : ds.length ≤ 1000000) : Ev X H0 Oc Γ (.Tuple es x1 pos) (.va (.tup ds)) := fun Δ τ σ H Q hl W q =>
  wpE.of (pe_tup pa_wp) (h Δ τ σ H _ hl W fun vs O H' W' ok => by
    have r := ok.reps hd
    exact ⟨r.len' hn, fun p hp => q _ _ ⟨O, W'.newTup hp r⟩⟩)
theorem ev_lst (h : Ea X H0 Oc Γ es ss) (hd : dats ss = some ds) (hn : ds.length ≤ 1000000) : Ev X H0 Oc Γ (.List es pos) (.ow (.lst ds)) := fun Δ τ σ H Q hl W q =>
  wpE.of (pe_lst pa_wp) (h Δ τ σ H _ hl W fun vs O H' W' ok => by
    have r := ok.reps hd
    exact ⟨r.len' hn, fun p hp => q _ _ ⟨_, W'.newLst hp r⟩⟩)
/-! ### items, slices -/
theorem Reps.atI {K : PySem.W.Frag} {H : Hp} {vs : List V} (h : Reps K H ds vs) (hi : L2.atI ds i = some d) : ∃ v, L2.atI vs i = some v ∧ Rep K H d v := by
  unfold L2.atI at hi ⊢
  rw [Reps.len h]
  cases q : ixN ds.length i with
  | none => rw [q] at hi; cases hi
  | some k =>
    rw [q] at hi
    exact Reps.get h hi
theorem ev_ixL (ha : Ev X H0 Oc Γ a (.bw (.lst ds))) (hb : Ev X H0 Oc Γ b (.va (.int i))) (hi : L2.atI ds i = some d) (hs : PlainIx b := by exact fun _ _ => rfl) : Ev X H0 Oc Γ (.Subscript a b pos) (.va d) :=
  ev_op2 (fun ha hb => pe_ix ix_list ha hb hs) ha hb fun G S H v w Q ⟨O, W⟩ q => by
    obtain ⟨u, h1, h2⟩ := W.head
    obtain ⟨u', h1', p, vs, h2', h3, h4⟩ := W.pop.head
    cases h1
    cases h1'
    obtain ⟨z, hz, rz⟩ := h4.atI hi
    exact ⟨p, vs, i, z, h2', h2, .of h3, hz, q z H ⟨O, W.pop.pop.push ⟨z, rfl, rz⟩ fun _ z => nomatch z⟩⟩
theorem ev_ixF (ha : Ev X H0 Oc Γ a (.bw (.fz ds))) (hb : Ev X H0 Oc Γ b (.va (.int i))) (hi : L2.atI ds i = some d) (hs : PlainIx b := by exact fun _ _ => rfl) : Ev X H0 Oc Γ (.Subscript a b pos) (.va d) :=
  ev_op2 (fun ha hb => pe_ix ix_list ha hb hs) ha hb fun G S H v w Q ⟨O, W⟩ q => by
    obtain ⟨u, h1, h2⟩ := W.head
    obtain ⟨u', h1', p, vs, h2', h3, h4⟩ := W.pop.head
    cases h1
    cases h1'
    obtain ⟨z, hz, rz⟩ := h4.atI hi
    exact ⟨p, vs, i, z, h2', h2, h3, hz, q z H ⟨O, W.pop.pop.push ⟨z, rfl, rz⟩ fun _ z => nomatch z⟩⟩
theorem ev_ixT (ha : Ev X H0 Oc Γ a (.bw (.tup ds))) (hb : Ev X H0 Oc Γ b (.va (.int i))) (hi : L2.atI ds i = some d) (hs : PlainIx b := by exact fun _ _ => rfl) : Ev X H0 Oc Γ (.Subscript a b pos) (.va d) :=
  ev_op2 (fun ha hb => pe_ix ix_tup ha hb hs) ha hb fun G S H v w Q ⟨O, W⟩ q => by
    obtain ⟨u, h1, h2⟩ := W.head
    obtain ⟨u', h1', p, vs, h2', h3, h4⟩ := W.pop.head
    cases h1
    cases h1'
    obtain ⟨z, hz, rz⟩ := h4.atI hi
    exact ⟨p, vs, i, z, h2', h2, .of h3, hz, q z H ⟨O, W.pop.pop.push ⟨z, rfl, rz⟩ fun _ z => nomatch z⟩⟩
/-- a slice's part -/
def Eo (X : Cx) (H0 : Hp) (Oc : List Addr) (Γ : List Sl) (e : Option Expr) (o : Option Int) : Prop := ∃ t : TO, PO X e t ∧ ∀ (Δ : List Sl) (τ : List (Option V)) (σ : L2.St) (H : Hp) (Q : Option Int → Hp → Prop), τ.length = Δ.length → Wf X.K H0 Oc (Δ ++ Γ) (τ ++ σ) H →
  (∀ H', Wf X.K H0 Oc (Δ ++ Γ) (τ ++ σ) H' → Q o H') → t σ H Q
theorem eo_no : Eo X H0 Oc Γ none none := ⟨_, po_none, fun Δ τ σ H Q _ W q => q H W⟩
theorem eo_at (h : Ev X H0 Oc Γ e (.va (.int i))) : Eo X H0 Oc Γ (some e) (some i) := ⟨_, po_some pe_wp, fun Δ τ σ H Q hl W q => h Δ τ σ H _ hl W fun v H' ⟨O, W'⟩ => by
  obtain ⟨u, h1, h2⟩ := W'.head
  cases h1
  exact ⟨i, h2, q H' ⟨O, W'.pop⟩⟩⟩
def cutD {α : Type} (xs : List α) (lo hi : Option Int) : List α := (xs.drop (HT.sIx xs.length 0 lo)).take (HT.sIx xs.length xs.length hi - HT.sIx xs.length 0 lo)
theorem cutD_map {α β : Type} {f : α → β} {xs : List α} {lo hi : Option Int} : cutD (xs.map f) lo hi = (cutD xs lo hi).map f := by
  unfold cutD
  rw [List.length_map, List.map_take, List.map_drop]
theorem Reps.cut {K : PySem.W.Frag} {H : Hp} {vs : List V} {lo hi : Option Int} (h : Reps K H ds vs) : Reps K H (cutD ds lo hi) (cutV vs lo hi) := by
  unfold cutD cutV
  rw [Reps.len h]
  exact Reps.take _ (Reps.drop _ h)
theorem ev_slL {lo hi : Option Expr} {l h : Option Int} (ha : Ev X H0 Oc Γ a (.bw (.lst ds))) (hlo : Eo X H0 Oc Γ lo l) (hhi : Eo X H0 Oc Γ hi h) : Ev X H0 Oc Γ (.Subscript a (.Slice lo hi none p2) pos) (.ow (.lst (cutD ds l h))) := fun Δ τ σ H Q hl W q => by
  obtain ⟨tl, pl, kl⟩ := hlo
  obtain ⟨th, ph, kh⟩ := hhi
  refine wpE.of (pe_slice sl_list pe_wp pl ph) ?_
  refine ha Δ τ σ H _ hl W fun v H1 W1 => ?_
  refine kl (.bw (.lst ds) :: Δ) (some v :: τ) σ H1 _ (by simp [hl]) W1 fun H2 W2 => ?_
  refine kh (.bw (.lst ds) :: Δ) (some v :: τ) σ H2 _ (by simp [hl]) W2 fun H3 ⟨O, W3⟩ => ?_
  obtain ⟨u', h1', p, vs, h2', h3, h4⟩ := W3.head
  cases h1'
  exact ⟨p, vs, h2', .of h3, fun x hx => q _ _ ⟨_, W3.pop.newLst hx h4.cut⟩⟩
theorem whole_cut {vs : List V} {l h : Option Int} (hw : HT.sIx vs.length 0 l = 0 ∧ HT.sIx vs.length vs.length h = vs.length) : cutV vs l h = vs := by
  unfold cutV
  rw [hw.1, hw.2]
  simp
theorem ev_slT {lo hi : Option Expr} {l h : Option Int} (ha : Ev X H0 Oc Γ a (.va (.tup ds))) (hlo : Eo X H0 Oc Γ lo l) (hhi : Eo X H0 Oc Γ hi h) : Ev X H0 Oc Γ (.Subscript a (.Slice lo hi none p2) pos) (.va (.tup (cutD ds l h))) := fun Δ τ σ H Q hl W q => by
  obtain ⟨tl, pl, kl⟩ := hlo
  obtain ⟨th, ph, kh⟩ := hhi
  refine wpE.of (pe_slice sl_tupA pe_wp pl ph) ?_
  refine ha Δ τ σ H _ hl W fun v H1 W1 => ?_
  refine kl (.va (.tup ds) :: Δ) (some v :: τ) σ H1 _ (by simp [hl]) W1 fun H2 W2 => ?_
  refine kh (.va (.tup ds) :: Δ) (some v :: τ) σ H2 _ (by simp [hl]) W2 fun H3 ⟨O, W3⟩ => ?_
  obtain ⟨u', h1', p, vs, h2', h3, h4⟩ := W3.head
  cases h1'
  refine ⟨p, vs, h2', .of (cut_ex _ _ h3), fun hw => ?_, fun hw x hx => q _ _ ⟨O, W3.pop.newTup hx h4.cut⟩⟩
  refine q _ H3 ⟨O, W3.pop.push ⟨.ref p, rfl, p, _, rfl, h3, ?_⟩ fun _ z => nomatch z⟩
  have := h4.cut (lo := l) (hi := h)
  rw [whole_cut hw] at this
  exact this
/-! ### joined, repeated -/
theorem ev_catL (ha : Ev X H0 Oc Γ a (.bw (.lst ds1))) (hb : Ev X H0 Oc Γ b (.bw (.lst ds2))) (hn : ds1.length + ds2.length ≤ 1000000) : Ev X H0 Oc Γ (.BinOp a .Add b pos) (.ow (.lst (ds1 ++ ds2))) :=
  ev_op2 (fun ha hb => pe_op op_cat ha hb) ha hb fun G S H v w Q ⟨O, W⟩ q => by
    obtain ⟨⟨p, vs, e1, h1, r1⟩, ⟨p', us, e2, h2, r2⟩, W'⟩ := bw2 W
    refine ⟨p, p', vs, us, e1, e2, h1, h2, ?_, fun x hx => q _ _ ⟨_, W'.newLst hx (r1.app r2)⟩⟩
    rw [r1.len, r2.len, sizeLine_eq]
    omega
theorem ev_catT (ha : Ev X H0 Oc Γ a (.va (.tup ds1))) (hb : Ev X H0 Oc Γ b (.va (.tup ds2))) (hn : ds1.length + ds2.length ≤ 1000000) : Ev X H0 Oc Γ (.BinOp a .Add b pos) (.va (.tup (ds1 ++ ds2))) :=
  ev_op2 (fun ha hb => pe_op op_catA ha hb) ha hb fun G S H v w Q ⟨O, W⟩ q => by
    obtain ⟨⟨p, vs, e1, h1, r1⟩, ⟨p', us, e2, h2, r2⟩, W'⟩ := va2 W
    have r := r1.app r2
    refine ⟨p, p', vs, us, e1, e2, .of (cut_ex _ _ h1), .of (cut_ex _ _ h2), ?_, fun z => ?_, fun _ z => ?_, fun _ _ x hx => q _ _ ⟨_, W'.newTup hx r⟩⟩
    · rw [r1.len, r2.len, sizeLine_eq]
      omega
    · rw [z, List.nil_append] at r
      exact q _ H ⟨O, W'.push ⟨.ref p', rfl, p', _, rfl, h2, r⟩ fun _ z => nomatch z⟩
    · rw [z, List.append_nil] at r
      exact q _ H ⟨O, W'.push ⟨.ref p, rfl, p, _, rfl, h1, r⟩ fun _ z => nomatch z⟩
theorem Reps.flat {K : PySem.W.Frag} {H : Hp} {vs : List V} (h : Reps K H ds vs) : ∀ n : Nat, Reps K H (List.replicate n ds).flatten (List.replicate n vs).flatten
  | 0 => rfl
  | n + 1 => by
    rw [List.replicate_succ, List.replicate_succ, List.flatten_cons, List.flatten_cons]
    exact h.app (Reps.flat h n)
theorem ev_repL (ha : Ev X H0 Oc Γ a (.bw (.lst ds))) (hb : Ev X H0 Oc Γ b (.va (.int i))) (h1 : i ≤ 1000000) (h2 : -1000000 ≤ i) (hn : ds.length * i.toNat ≤ 1000000) : Ev X H0 Oc Γ (.BinOp a .Mult b pos) (.ow (.lst (List.replicate i.toNat ds).flatten)) :=
  ev_op2 (fun ha hb => pe_op op_rep ha hb) ha hb fun G S H v w Q ⟨O, W⟩ q => by
    obtain ⟨u, g1, g2⟩ := W.head
    obtain ⟨u', g1', p, vs, e1, g3, r⟩ := W.pop.head
    cases g1
    cases g1'
    refine ⟨p, i, vs, e1, g2, g3, by omega, by omega, ?_, fun x hx => q _ _ ⟨_, W.pop.pop.newLst hx (r.flat _)⟩⟩
    rw [r.len, sizeLine_eq]
    omega
theorem ev_revL {k : Nat} {p1 p3 p4 : Pos} (ha : Ev X H0 Oc Γ a (.bw (.lst ds))) : Ev X H0 Oc Γ (.Subscript a (.Slice none none (some (.UnaryOp .USub (.Constant (.int 1) k p1) p3)) p4) pos) (.ow (.lst ds.reverse)) := fun Δ τ σ H Q hl W q =>
  wpE.of (pe_revL pe_wp) (ha Δ τ σ H _ hl W fun v H' ⟨O, W'⟩ => by
    obtain ⟨u, g1, p, vs, e1, g3, r⟩ := W'.head
    cases g1
    exact ⟨p, vs, e1, .of g3, fun x hx => q _ _ ⟨_, W'.pop.newLst hx r.rev⟩⟩)
/-! ### calls of what is built in -/
/-- one argument -/
theorem ev_b1 {id : String} {x : Str} {p : Pos} {r : List V → Hp → VK → Prop} (hc : CallR X (.builtin id) r) (ha : Ev X H0 Oc Γ a s1) (hm : X.mg x = none) (hv : bootBuiltins x = some (.builtin id)) (hg : Gl X x)
    (hr : ∀ (G : List Sl) (S : List (Option V)) (H : Hp) (v : V) (Q : VK), Wf X.K H0 Oc (s1 :: G) (some v :: S) H → (∀ u H', Wf X.K H0 Oc (s :: G) (some u :: S) H' → Q u H') → r [v] H Q)
    (hn : x ≠ "__name__") (hd : (x == ("__debug__" : Str)) = false) (he : starEach [a] X.env = (false, eval a X.env) :: starEach [] X.env) (hpl : (backTo pos (starEach [] X.env)).any (·.1) = false) : Ev X H0 Oc Γ (.Call (.Name x p) [a] [] pos) s := fun Δ τ σ H Q hl W q =>
  wpE.of (pe_callB hc hg hm hv (pa_cons pe_wp pa_nil he) hn hd he hpl) (ha Δ τ σ H _ hl W fun v H1 W1 => hr _ _ H1 v Q W1 q)
theorem ev_t1 {T : String} {x : Str} {p : Pos} {r : List V → Hp → VK → Prop} (hc : CallR X (.type T) r) (ha : Ev X H0 Oc Γ a s1) (hm : X.mg x = none) (hv : bootBuiltins x = some (.type T)) (hg : Gl X x)
    (hr : ∀ (G : List Sl) (S : List (Option V)) (H : Hp) (v : V) (Q : VK), Wf X.K H0 Oc (s1 :: G) (some v :: S) H → (∀ u H', Wf X.K H0 Oc (s :: G) (some u :: S) H' → Q u H') → r [v] H Q)
    (hn : x ≠ "__name__") (hd : (x == ("__debug__" : Str)) = false) (he : starEach [a] X.env = (false, eval a X.env) :: starEach [] X.env) (hpl : (backTo pos (starEach [] X.env)).any (·.1) = false) : Ev X H0 Oc Γ (.Call (.Name x p) [a] [] pos) s := fun Δ τ σ H Q hl W q =>
  wpE.of (pe_callTy hc hg hm hv (pa_cons pe_wp pa_nil he) hn hd he hpl) (ha Δ τ σ H _ hl W fun v H1 W1 => hr _ _ H1 v Q W1 q)
/-- the items of a list or tuple -/
def seqD : D → Option (List D)
  | .lst ds => some ds
  | .tup ds => some ds
  | .fz ds => some ds
  | _ => none
theorem RepB.seq {K : PySem.W.Frag} {Ht H : Hp} {v : V} (h : RepB K Ht H d v) (hd : seqD d = some ds) : ∃ p vs, v = .ref p ∧ (SqL K Ht p vs ∨ SqT K Ht p vs) ∧ Reps K H ds vs := by
  cases d <;> first | cases hd
  · obtain ⟨p, vs, h1, h2, h3⟩ := h; exact ⟨p, vs, h1, .inr (.of h2), h3⟩
  · obtain ⟨p, vs, h1, h2, h3⟩ := h; exact ⟨p, vs, h1, .inl (.of h2), h3⟩
  · obtain ⟨p, vs, h1, h2, h3⟩ := h; exact ⟨p, vs, h1, .inl h2, h3⟩
theorem ev_len {p : Pos} (ha : Ev X H0 Oc Γ a (.bw d)) (hd : seqD d = some ds) (hm : X.mg "len" = none) (hg : Gl X "len") (he : starEach [a] X.env = (false, eval a X.env) :: starEach [] X.env) (hpl : (backTo pos (starEach [] X.env)).any (·.1) = false) :
    Ev X H0 Oc Γ (.Call (.Name "len" p) [a] [] pos) (.va (.int ds.length)) := ev_b1 call_len_seq ha hm PySem.boot_len hg (fun G S H v Q W q => by
      obtain ⟨⟨O, h⟩, O', W'⟩ := W.popB
      obtain ⟨p, vs, e, hq, r⟩ := h.seq hd
      exact ⟨p, vs, by rw [e], hq, q _ H ⟨O', W'.flat rfl (show Rep X.K H (.int ds.length) (.int vs.length) by rw [r.len]; rfl)⟩⟩) (by decide) (by decide) he hpl
theorem ev_list {p : Pos} (ha : Ev X H0 Oc Γ a (.bw d)) (hd : seqD d = some ds) (hm : X.mg "list" = none) (hg : Gl X "list") (he : starEach [a] X.env = (false, eval a X.env) :: starEach [] X.env) (hpl : (backTo pos (starEach [] X.env)).any (·.1) = false) :
    Ev X H0 Oc Γ (.Call (.Name "list" p) [a] [] pos) (.ow (.lst ds)) := ev_t1 call_list_of ha hm (by decide +kernel) hg (fun G S H v Q ⟨O, W⟩ q => by
      obtain ⟨u, g1, h⟩ := W.head
      cases g1
      obtain ⟨p, vs, e, hq, r⟩ := h.seq hd
      exact ⟨p, vs, by rw [e], hq, fun x hx => q _ _ ⟨_, W.pop.newLst hx r⟩⟩) (by decide) (by decide) he hpl
theorem ev_tupL {p : Pos} (ha : Ev X H0 Oc Γ a (.bw (.lst ds))) (hm : X.mg "tuple" = none) (hg : Gl X "tuple") (he : starEach [a] X.env = (false, eval a X.env) :: starEach [] X.env) (hpl : (backTo pos (starEach [] X.env)).any (·.1) = false) :
    Ev X H0 Oc Γ (.Call (.Name "tuple" p) [a] [] pos) (.va (.tup ds)) := ev_t1 call_tuple_of ha hm (by decide +kernel) hg (fun G S H v Q ⟨O, W⟩ q => by
      obtain ⟨u, g1, p, vs, e, hq, r⟩ := W.head
      cases g1
      exact ⟨p, vs, by rw [e], .inl ⟨.of hq, fun x hx => q _ _ ⟨_, W.pop.newTup hx r⟩⟩⟩) (by decide) (by decide) he hpl
theorem ev_tupT {p : Pos} (ha : Ev X H0 Oc Γ a (.va (.tup ds))) (hm : X.mg "tuple" = none) (hg : Gl X "tuple") (he : starEach [a] X.env = (false, eval a X.env) :: starEach [] X.env) (hpl : (backTo pos (starEach [] X.env)).any (·.1) = false) :
    Ev X H0 Oc Γ (.Call (.Name "tuple" p) [a] [] pos) (.va (.tup ds)) := ev_t1 call_tuple_of ha hm (by decide +kernel) hg (fun G S H v Q ⟨O, W⟩ q => by
      obtain ⟨u, g1, p, vs, e, hq, r⟩ := id W.head
      cases g1
      refine ⟨p, vs, by rw [e], .inr ⟨.of (cut_ex _ _ hq), ?_⟩⟩
      have := q v H ⟨O, W⟩
      rw [e] at this
      exact this) (by decide) (by decide) he hpl
theorem ev_int1 {p : Pos} (ha : Ev X H0 Oc Γ a (.va (.int i))) (hm : X.mg "int" = none) (hg : Gl X "int") (he : starEach [a] X.env = (false, eval a X.env) :: starEach [] X.env) (hpl : (backTo pos (starEach [] X.env)).any (·.1) = false) :
    Ev X H0 Oc Γ (.Call (.Name "int" p) [a] [] pos) (.va (.int i)) := ev_t1 call_int1 ha hm (by decide +kernel) hg (fun G S H v Q ⟨O, W⟩ q => by
      obtain ⟨u, g1, e⟩ := W.head
      cases g1
      exact .inl ⟨i, by rw [show v = _ from e], q _ _ ⟨O, W.pop.flat rfl (show Rep X.K H (.int i) (.int i) from rfl)⟩⟩) (by decide) (by decide) he hpl
end
end Y

namespace Y
open PySem L2

/-! ## what a def promises, in terms of data -/
/-- how a statement or a body ends -/
inductive Out where
  | nx (Γ : List Sl) | ret (s : Sl) | brk (Γ : List Sl) | cnt (Γ : List Sl) | exc (C : Addr) (ns : List Str) (ds : List D) (Γ : Option (List Sl))
/-- the arguments' slots and the end that is promised for them -/
abbrev Pm := List Sl → Out → Prop
/-- a slot that may be handed back -/
def Sl.res : Sl → Bool
  | .va _ | .ow _ | .no => true
  | _ => false
/-- a slot as a callee has it -/
def Sl.arg : Sl → Sl
  | .ow d => .br d
  | .bw d => .br d
  | s => s
section
variable (K : PySem.W.Frag)
def SatR (H0 : Hp) (Oc : List Addr) (Q : VK) (s : Sl) : Prop := ∀ v H', Wf K H0 Oc [s] [some v] H' → Q v H'
def SatX (H0 : Hp) (Oc : List Addr) (E : XK) (C : Addr) (ns : List Str) (ds : List D) : Prop := ∀ d H', Wf K H0 Oc [.va (.xd ns ds)] [some (.ref d)] H' → E (.ref C) (some d) H'
def SatF (H0 : Hp) (Oc : List Addr) (Q : VK) (E : XK) : Out → Prop
  | .ret s => SatR K H0 Oc Q s
  | .exc C ns ds _ => SatX K H0 Oc E C ns ds
  | _ => False
def mkSp (P : Pm) : Sp := fun vs H Q E => ∃ Oc Γ o, P Γ o ∧ Wf K H Oc Γ (vs.map some) H ∧ SatF K H Oc Q E o
/-- __init__: the object in the making is one's own -/
def SatI (H0 : Hp) (Oc : List Addr) (self : V) (Q : VK) (E : XK) : Out → Prop
  | .ret s => ∀ H', Wf K H0 Oc [s] [some self] H' → Q .non H'
  | .exc C ns ds _ => SatX K H0 Oc E C ns ds
  | _ => False
def mkSpI (C : Addr) (P : Pm) : Sp := fun vs H Q E => ∃ H0 Oc Γ o self us, P Γ o ∧ vs = self :: us ∧ Wf K H0 Oc (.ow (.obj C [] []) :: Γ) (vs.map some) H ∧ SatI K H0 Oc self Q E o
end
/-- a def of the module -/
structure FnG (Pr : Program) (w : World) (K : PySem.W.Frag) (mg : Str → Option Value) (base : Heap) (x : Str) (k : Nat) (ps : List Str) (P : Pm) : Prop where
  ex : ∃ f fd, FnOk Pr w K mg base (L2N.CX Pr w) k f fd ps (mkSp K P) ∧ mg x = some (.ref f) ∧ PySem.W.keepIn K (.ref f) = true ∧ L2.Binds K fd ps []
/-- a method of the class at C -/
structure MtG (Pr : Program) (w : World) (K : PySem.W.Frag) (mg : Str → Option Value) (base : Heap) (C : Addr) (m : Str) (k : Nat) (ps : List Str) (P : Pm) : Prop where
  ex : ∃ f fd, FnOk Pr w K mg base (L2N.CX Pr w) k f fd ps (mkSp K P) ∧ Meth K C m f ∧ L2.Binds K fd ps []
/-- a class with its __init__ -/
structure ClG (Pr : Program) (w : World) (K : PySem.W.Frag) (mg : Str → Option Value) (base : Heap) (x : Str) (C : Addr) (k : Nat) (ps : List Str) (P : Pm) : Prop where
  ex : ∃ f fd, FnOk Pr w K mg base (L2N.CX Pr w) k f fd ps (mkSpI K C P) ∧ Mk K C f ∧ mg x = some (.ref C) ∧ L2.Binds K fd ps []
/-- a property -/
structure PrG (Pr : Program) (w : World) (K : PySem.W.Frag) (mg : Str → Option Value) (base : Heap) (C : Addr) (m : Str) (k : Nat) (ps : List Str) (P : Pm) : Prop where
  ex : ∃ p f fd, FnOk Pr w K mg base (L2N.CX Pr w) k f fd ps (mkSp K P) ∧ PropOf K C m p f ∧ L2.Binds K fd ps []

section
variable {K : PySem.W.Frag} {H0 H H' : Hp} {O Oc : List Addr} {G : List Sl} {S : List (Option V)} {s : Sl} {ss : List Sl} {vs : List V} {v : V}
theorem SlOk.arg (e : Ex H0 H) (h : SlOk K H0 O H s (some v)) : SlOk K H O H s.arg (some v) := by
  cases s with
  | no => trivial
  | va d => exact h
  | ow d => exact ⟨v, rfl, h.b e rfl⟩
  | br d => exact ⟨v, rfl, h.b e rfl⟩
  | bw d => exact ⟨v, rfl, h.b e rfl⟩
theorem arg_not : ∀ {ss : List Sl} {i : Nat} {d : D}, (ss.map Sl.arg)[i]? = some (.ow d) → False := fun {ss i d} h => by
  rw [List.getElem?_map] at h
  cases q : ss[i]? with
  | none => rw [q] at h; cases h
  | some s' =>
    rw [q] at h
    cases s' <;> cases h
theorem ArgsOk.len : ∀ {ss : List Sl} {vs : List V}, ArgsOk K H0 O H ss vs → vs.length = ss.length
  | [], _, h => by rw [show _ = _ from h] <;> rfl
  | _ :: _, _, ⟨_, _, h1, _, h3⟩ => by rw [h1, List.length_cons, List.length_cons, ArgsOk.len h3]
theorem ArgsOk.at : ∀ {ss : List Sl} {vs : List V} {i : Nat} {s : Sl} {x : Option V}, ArgsOk K H0 O H ss vs → ss[i]? = some s → (vs.map some)[i]? = some x → ∃ v, x = some v ∧ SlOk K H0 O H s (some v)
  | [], _, _, _, _, _, e, _ => by simp at e
  | _ :: _, _, 0, _, _, ⟨v, _, h1, h2, _⟩, e, f => by
    subst h1
    have e1 := Option.some.inj e
    have e2 := Option.some.inj f
    subst e1
    exact ⟨v, e2.symm, h2⟩
  | _ :: _, _, i + 1, _, _, ⟨_, us, h1, _, h3⟩, e, f => by
    subst h1
    exact ArgsOk.at (i := i) h3 e f
/-- the callee's view of its arguments -/
theorem WfO.callee (W : WfO K H0 Oc O G S H) (ok : ArgsOk K H0 O H ss vs) : Wf K H O (ss.map Sl.arg) (vs.map some) H := by
  refine ⟨O, fun a z => z, fun a z => .inl z, W.live, W.live, fun _ _ z => z, by rw [List.length_map, List.length_map, ok.len], fun i s x h1 h2 => ?_, fun i j p d d' h1 _ _ _ => (arg_not h1).elim⟩
  rw [List.getElem?_map] at h1
  cases q : ss[i]? with
  | none => rw [q] at h1; cases h1
  | some s' =>
    rw [q] at h1
    cases h1
    obtain ⟨v, rfl, h⟩ := ok.at q h2
    exact h.arg W.ex
theorem cut_own2 {O2 : List Addr} (hn : ∀ a ∈ O2, a ∈ O ∨ H a = none) (e : Ex H H') : Ex (cut H O) (cut H' O2) := fun a o h => by
  unfold cut at h ⊢
  split at h
  · cases h
  · rename_i n
    rw [if_neg fun z => ?_]
    · exact e _ _ h
    · rcases hn a z with q | q
      · exact n q
      · rw [q] at h; cases h
theorem SlOk.later {O2 : List Addr} {x : Option V} (sub : ∀ a ∈ O, a ∈ O2) (hn : ∀ a ∈ O2, a ∈ O ∨ H a = none) (e : Ex H H') : ∀ {s : Sl}, SlOk K H0 O H s x → SlOk K H0 O2 H' s x
  | .no, _ => trivial
  | .va _, ⟨v, h1, h2⟩ => ⟨v, h1, Rep.mono (cut_own2 hn e) h2⟩
  | .ow _, ⟨q, o, h1, h2, h3, h4, h5⟩ => ⟨q, o, h1, sub _ h2, h3, e _ _ h4, RepH.mono (cut_own2 hn e) h5⟩
  | .br _, ⟨v, h1, h2⟩ => ⟨v, h1, RepB.mono (fun _ _ z => z) (cut_own2 hn e) h2⟩
  | .bw _, ⟨v, h1, h2⟩ => ⟨v, h1, RepB.mono e (cut_own2 hn e) h2⟩
/-- behind a call -/
theorem WfO.after (W : WfO K H0 Oc O G S H) (W2 : Wf K H O [s] [some v] H') (hs : s.res = true) : Wf K H0 Oc (s :: G) (some v :: S) H' := by
  obtain ⟨O2, W2⟩ := W2
  have e := W2.ex
  have h0 : ∀ {p}, H p = none → H0 p = none := fun {p} z => by
    cases q : H0 p with
    | none => rfl
    | some u => rw [W.ex _ _ q] at z; cases z
  refine ⟨O2, fun a z => W2.sub a (W.sub a z), fun a z => (W2.new a z).elim (W.new a) fun q => .inr (h0 q), W.old, W2.live, Ex.tr W.ex e, by simp [W.len], fun i s' x h1 h2 => ?_, ?_⟩
  · cases i with
    | zero =>
      have e1 := Option.some.inj h1
      have e2 := Option.some.inj h2
      subst e1
      subst e2
      have hh := W2.head
      cases s with
      | no => trivial
      | va d => exact hh
      | ow d =>
        obtain ⟨p, o, q1, q2, q3, q4, q5⟩ := hh
        exact ⟨p, o, q1, q2, h0 q3, q4, q5⟩
      | br d => exact absurd hs Bool.false_ne_true
      | bw d => exact absurd hs Bool.false_ne_true
    | succ i => exact (W.ok i s' x h1 h2).later W2.sub W2.new e
  · have newer : ∀ {p : Addr} {d : D}, some s = some (.ow d) → some (some v) = some (some (V.ref p)) → ∀ {i : Nat} {d' : D}, G[i]? = some (.ow d') → S[i]? = some (some (.ref p)) → False := fun {p d} a b {i d'} h1 h2 => by
      cases a
      cases b
      obtain ⟨_, z, _⟩ := W2.owner (i := 0) rfl rfl
      obtain ⟨_, _, o, z', _⟩ := W.owner h1 h2
      rw [z] at z'
      cases z'
    intro i j p d d' h1 h2 h3 h4
    cases i with
    | zero =>
      cases j with
      | zero => rfl
      | succ j => exact (newer h1 h2 h3 h4).elim
    | succ i =>
      cases j with
      | zero => exact (newer h3 h4 h1 h2).elim
      | succ j => exact congrArg Nat.succ (W.nd i j p d d' h1 h2 h3 h4)
end

theorem WfO.making {K : PySem.W.Frag} {H1 : Hp} {O : List Addr} {G : List Sl} {S : List (Option V)} {C y dx : Addr} (W : Wf K H1 O G S H1) (ny : H1 y = none) (ndx : H1 dx = none) (ne : dx ≠ y) :
    Wf K H1 O (.ow (.obj C [] []) :: G) (some (.ref y) :: S) (upd (upd H1 dx (.own y)) y (.ins C dx [])) := by
  obtain ⟨O', W⟩ := W
  exact ⟨_, W.pushOw (Ex.tr (Ex.new ndx) (Ex.new ((upd_ne (Ne.symm ne)).trans ny))) ny upd_same ⟨rfl, rfl, rfl⟩⟩
section
variable {X : Cx} {H0 : Hp} {Oc : List Addr} {Γ : List Sl} {e a b c o : Expr} {es : List Expr} {s s0 s1 s2 : Sl} {ss : List Sl} {d d1 d2 : D} {ds ds1 ds2 : List D} {i j : Int} {pos p2 p apos : Pos} {x m : Str} {k : Nat} {ps : List Str} {P : Pm} {C : Addr} {ns : List Str}
theorem passLN {X : Cx} : Passes (L2N.CX X.prog X.w) X E0 := fun _ _ _ _ _ _ _ c => by
  obtain ⟨_, _, _, _, _, _, _, _, _, _, _, _, z⟩ := c
  exact z.elim
/-- the same, the argument list pushed below what stands -/
theorem ev_call (F : FnG X.prog X.w X.K X.mg X.base x k ps P) (hr : Room k X.A) (ha : Ea X H0 Oc Γ (e :: es) ss) (hp : P (ss.map Sl.arg) (.ret s)) (hs : s.res = true := by rfl) (hg : Gl X x := by rfl) (hdb : (x == ("__debug__" : Str)) = false := by decide)
    (he : starEach (e :: es) X.env = (false, eval e X.env) :: starEach es X.env := by rfl) (hpl : (backTo pos (starEach es X.env)).any (·.1) = false := by rfl) : Ev X H0 Oc Γ (.Call (.Name x p) (e :: es) [] pos) s := fun Δ τ σ H Q hl W q => by
  obtain ⟨f, fd, F, hm, hk, hb⟩ := F.ex
  refine wpE.of (pe_call (E := E0) F hr hg hm hk hb .nil passLN pa_wp hdb he hpl) ?_
  refine ha Δ τ σ H _ hl W fun vs O H1 W1 ok => ?_
  rw [List.append_nil]
  exact ⟨O, _, _, hp, W1.callee ok, fun v H' W2 => q v H' (W1.after W2 hs)⟩
theorem ev_meth {pl : Sem Bool} (c : Cls X.K C) (F : MtG X.prog X.w X.K X.mg X.base C m k ps P) (hr : Room k X.A) (ho : Ev X H0 Oc Γ o s0) (hd : s0.dat = some (.obj C ns ds)) (hn : m ∉ ns) (ha : Ea X H0 Oc Γ (e :: es) ss) (hp : P (s0.arg :: ss.map Sl.arg) (.ret s)) (hs : s.res = true := by rfl)
    (hst : starEach (e :: es) X.env = (false, eval e X.env) :: starEach es X.env := by rfl) (hpl : (backTo pos (starEach es X.env)).any (·.1) = false := by rfl)
    (ht : eval (.Call (.Attribute o m apos) (e :: es) [] pos) X.env = (do
      let ov ← eval o X.env
      standAt apos.atName
      let (f, first) ← holding [ov] (getMethod ov m pl)
      callWith pos f first (backTo pos (starEach (e :: es) X.env)) (backToKw pos (keywordEach [] X.env))) := by rfl) : Ev X H0 Oc Γ (.Call (.Attribute o m apos) (e :: es) [] pos) s := fun Δ τ σ H Q hl W q => by
  obtain ⟨f, fd, F, hm, hb⟩ := F.ex
  refine wpE.of (pe_meth (pl := pl) (E := E0) pe_wp c hm F hr hb .nil passLN pa_wp hst hpl ht) ?_
  refine ho Δ τ σ H _ hl W fun v H1 W1 => ?_
  obtain ⟨O1, W1'⟩ := id W1
  obtain ⟨r, dx, fs, rfl, h2, h3, h4⟩ := (W1'.head.b W1'.ex hd : RepB _ _ _ (.obj C ns ds) v)
  refine ⟨r, dx, fs, rfl, h2, ?_, ?_⟩
  · cases q : fs.lookup m with
    | none => rfl
    | some z =>
      refine absurd ?_ hn
      rw [← h3]
      exact List.mem_map_of_mem (f := (·.1)) (PySem.mem_of_lookup q)
  · refine ha (s0 :: Δ) (some (.ref r) :: τ) σ H1 _ (by simp [hl]) W1 fun vs O H2 W2 ok => ?_
    rw [List.append_nil]
    exact ⟨O, s0.arg :: ss.map Sl.arg, _, hp, W2.callee (ss := s0 :: ss) (vs := .ref r :: vs) ⟨_, _, rfl, W2.head, ok⟩, fun v H' W3 => q v H' (W2.pop.after W3 hs)⟩
theorem ev_meth0 {pl : Sem Bool} (c : Cls X.K C) (F : MtG X.prog X.w X.K X.mg X.base C m k ps P) (hr : Room k X.A) (ho : Ev X H0 Oc Γ o s0) (hd : s0.dat = some (.obj C ns ds)) (hn : m ∉ ns) (hp : P [s0.arg] (.ret s)) (hs : s.res = true := by rfl)
    (ht : eval (.Call (.Attribute o m apos) [] [] pos) X.env = (do
      let ov ← eval o X.env
      standAt apos.atName
      let (f, first) ← holding [ov] (getMethod ov m pl)
      callWith pos f first (backTo pos (starEach [] X.env)) (backToKw pos (keywordEach [] X.env))) := by rfl) : Ev X H0 Oc Γ (.Call (.Attribute o m apos) [] [] pos) s := fun Δ τ σ H Q hl W q => by
  obtain ⟨f, fd, F, hm, hb⟩ := F.ex
  refine wpE.of (pe_meth0 (pl := pl) (E := E0) pe_wp c hm F hr hb .nil passLN ht) ?_
  refine ho Δ τ σ H _ hl W fun v H1 ⟨O1, W1'⟩ => ?_
  obtain ⟨r, dx, fs, rfl, h2, h3, h4⟩ := (W1'.head.b W1'.ex hd : RepB _ _ _ (.obj C ns ds) v)
  refine ⟨r, dx, fs, rfl, h2, ?_, ?_⟩
  · cases q : fs.lookup m with
    | none => rfl
    | some z =>
      refine absurd ?_ hn
      rw [← h3]
      exact List.mem_map_of_mem (f := (·.1)) (PySem.mem_of_lookup q)
  · exact ⟨O1, [s0.arg], _, hp, W1'.callee (ss := [s0]) (vs := [.ref r]) ⟨_, _, rfl, W1'.head, rfl⟩, fun v H' W3 => q v H' (W1'.pop.after W3 hs)⟩
theorem ev_prop (c : Cls X.K C) (F : PrG X.prog X.w X.K X.mg X.base C m k ps P) (hr : Room (k + 1) X.A) (ho : Ev X H0 Oc Γ o s0) (hd : s0.dat = some (.obj C ns ds)) (hp : P [s0.arg] (.ret s)) (hs : s.res = true := by rfl)
    (hab : attributeBase o m X.env (eval o X.env) = eval o X.env := by rfl) : Ev X H0 Oc Γ (.Attribute o m pos) s := fun Δ τ σ H Q hl W q => by
  obtain ⟨p, f, fd, F, hm, hb⟩ := F.ex
  refine wpE.of (pe_prop (E := E0) pe_wp c hm F hr hb .nil (by exact passLN) hab) ?_
  refine ho Δ τ σ H _ hl W fun v H1 ⟨O1, W1'⟩ => ?_
  obtain ⟨r, dx, fs, rfl, h2, h3, h4⟩ := (W1'.head.b W1'.ex hd : RepB _ _ _ (.obj C ns ds) v)
  exact ⟨r, dx, fs, rfl, h2, O1, [s0.arg], _, hp, W1'.callee (ss := [s0]) (vs := [.ref r]) ⟨_, _, rfl, W1'.head, rfl⟩, fun v H' W3 => q v H' (W1'.pop.after W3 hs)⟩
/-- a field of an instance -/
theorem Reps.look {K : PySem.W.Frag} {H : Hp} : ∀ {fs : List (Str × V)} {ds : List D} {f : Str} {d : D}, Reps K H ds (fs.map (·.2)) → ((fs.map (·.1)).zip ds).lookup f = some d → ∃ v, fs.lookup f = some v ∧ Rep K H d v
  | [], [], _, _, _, h => by simp at h
  | [], _ :: _, _, _, _, h => by simp at h
  | _ :: _, [], _, _, _, h => by simp at h
  | (g, w) :: fs, d' :: ds, f, d, ⟨v, us, h1, h2, h3⟩, h => by
    have e1 := (List.cons.inj h1).1
    have e2 := (List.cons.inj h1).2
    simp only [List.map_cons, List.zip_cons_cons, List.lookup_cons] at h ⊢
    cases q : f == g with
    | true =>
      rw [q] at h
      have h' := Option.some.inj h
      subst h'
      exact ⟨w, by simp, by rw [show w = v from e1]; exact h2⟩
    | false =>
      rw [q] at h
      simp only [q]
      exact Reps.look (by rw [show fs.map (·.2) = us from e2]; exact h3) h
theorem ev_fld {f : Str} (c : Cls X.K C) (n : NoAttr X.K C f) (ha : Ev X H0 Oc Γ a (.bw (.obj C ns ds))) (hi : (ns.zip ds).lookup f = some d) (hab : attributeBase a f X.env (eval a X.env) = eval a X.env := by rfl) : Ev X H0 Oc Γ (.Attribute a f pos) (.va d) := fun Δ τ σ H Q hl W q =>
  wpE.of (pe_fld pe_wp hab) (ha Δ τ σ H _ hl W fun v H' ⟨O, W'⟩ => by
    obtain ⟨u, g1, r, dx, fs, rfl, h2, h3, h4⟩ := W'.head
    cases g1
    subst h3
    obtain ⟨z, hz, rz⟩ := h4.look hi
    exact ⟨r, C, dx, fs, z, rfl, h2, c, n, hz, q z H' ⟨O, W'.pop.push ⟨z, rfl, rz⟩ fun _ z => nomatch z⟩⟩)
/-- C(e, ..) -/
theorem ev_make (F : ClG X.prog X.w X.K X.mg X.base x C k ps P) (hr : Room (k + 1) X.A) (ha : Ea X H0 Oc Γ (e :: es) ss) (hp : P (ss.map Sl.arg) (.ret (.ow d))) (hg : Gl X x := by rfl) (hdb : (x == ("__debug__" : Str)) = false := by decide)
    (he : starEach (e :: es) X.env = (false, eval e X.env) :: starEach es X.env := by rfl) (hpl : (backTo pos (starEach es X.env)).any (·.1) = false := by rfl) : Ev X H0 Oc Γ (.Call (.Name x p) (e :: es) [] pos) (.ow d) := fun Δ τ σ H Q hl W q => by
  obtain ⟨f, fd, F, hM, hm, hb⟩ := F.ex
  refine wpE.of (pe_make (E := E0) hM F hr hg hm hb .nil passLN pa_wp hdb he hpl) ?_
  refine ha Δ τ σ H _ hl W fun vs O H1 W1 ok => ?_
  intro y dx ny ndx ne
  rw [List.append_nil]
  exact ⟨H1, O, _, _, _, _, hp, rfl, WfO.making (W1.callee ok) ny ndx ne, fun H' W2 => ⟨rfl, q _ H' (W1.after W2 rfl)⟩⟩
/-! ### what leaves an expression: an exception -/
def Exx (X : Cx) (W : WX) (H0 : Hp) (Oc : List Addr) (Γ : List Sl) (e : Expr) (C : Addr) (ns : List Str) (ds : List D) : Prop := ∀ (Δ : List Sl) (τ : List (Option V)) (σ : L2.St) (H : Hp) (Q : VK), τ.length = Δ.length → Wf X.K H0 Oc (Δ ++ Γ) (τ ++ σ) H →
  (∀ d H', Wf X.K H0 Oc (.va (.xd ns ds) :: (Δ ++ Γ)) (some (.ref d) :: (τ ++ σ)) H' → W (.ref C) (some d) σ H') → wpE X e σ H Q
theorem Wf.only {K : PySem.W.Frag} {G : List Sl} {S : List (Option V)} {H : Hp} {y : Option V} (W : Wf K H0 Oc (s :: G) (y :: S) H) : Wf K H0 Oc [s] [y] H := by
  obtain ⟨O, W⟩ := W
  refine ⟨O, W.sub, W.new, W.old, W.live, W.ex, rfl, fun i s' x h1 h2 => ?_, ?_⟩
  · cases i with
    | zero => exact W.ok 0 s' x h1 h2
    | succ i => simp at h1
  · intro i j p d d' h1 h2 h3 h4
    cases i with
    | zero =>
      cases j with
      | zero => rfl
      | succ j => simp at h3
    | succ i => simp at h1
theorem exx_call {W : WX} {C : Addr} {ns : List Str} {ds : List D} (tk : L2N.Takes X W) (F : FnG X.prog X.w X.K X.mg X.base x k ps P) (hr : Room k X.A) (ha : Ea X H0 Oc Γ (e :: es) ss) {Γe : Option (List Sl)} (hp : P (ss.map Sl.arg) (.exc C ns ds Γe)) (hg : Gl X x := by rfl) (hdb : (x == ("__debug__" : Str)) = false := by decide)
    (he : starEach (e :: es) X.env = (false, eval e X.env) :: starEach es X.env := by rfl) (hpl : (backTo pos (starEach es X.env)).any (·.1) = false := by rfl) : Exx X W H0 Oc Γ (.Call (.Name x p) (e :: es) [] pos) C ns ds := fun Δ τ σ H Q hl W' q => by
  obtain ⟨f, fd, F, hm, hk, hb⟩ := F.ex
  refine wpE.of (pe_callS (E := WE W) F hr hg hm hk hb (fun σ => L2N.passAt tk σ) pa_wp hdb he hpl) ?_
  refine ha Δ τ σ H _ hl W' fun vs O H1 W1 ok => ?_
  exact ⟨O, _, _, hp, W1.callee ok, fun d H' W2 => q d H' (W1.after W2 rfl)⟩
end
end Y

namespace Y
open PySem L2

/-! ## statements -/
def stab (G : List Sl) : Bool := G.all fun s => match s with | .bw _ => false | _ => true
def xWf (K : PySem.W.Frag) (H0 : Hp) (Oc : List Addr) (Δ : List Sl) (τ : List (Option V)) (ns : List Str) (ds : List D) (d : Addr) (σ : L2.St) (H : Hp) : Option (List Sl) → Prop
  | none => Wf K H0 Oc [.va (.xd ns ds)] [some (.ref d)] H
  | some Γ => Wf K H0 Oc (.va (.xd ns ds) :: (Δ ++ Γ)) (some (.ref d) :: (τ ++ σ)) H
section
variable (X : Cx) (W : WX) (H0 : Hp) (Oc : List Addr)
def Sat (Δ : List Sl) (τ : List (Option V)) (D : Ends) : Out → Prop
  | .nx Γ => ∀ σ H, Wf X.K H0 Oc (Δ ++ Γ) (τ ++ σ) H → D.nx σ H
  | .brk Γ => ∀ σ H, Wf X.K H0 Oc (Δ ++ Γ) (τ ++ σ) H → D.bk σ H
  | .cnt Γ => ∀ σ H, Wf X.K H0 Oc (Δ ++ Γ) (τ ++ σ) H → D.ct σ H
  | .ret s => ∀ v H, Wf X.K H0 Oc [s] [some v] H → D.rt v H
  | .exc C ns ds Γe => ∀ d σ H, xWf X.K H0 Oc Δ τ ns ds d σ H Γe → W (.ref C) (some d) σ H
def Sds (Γ : List Sl) (st : List Stmt) (o : Out) : Prop := ∀ (Δ : List Sl) (τ : List (Option V)) (σ : L2.St) (H : Hp) (D : Ends), τ.length = Δ.length → stab Δ = true → Wf X.K H0 Oc (Δ ++ Γ) (τ ++ σ) H → Sat X W H0 Oc Δ τ D o → wpSs X st D σ H
/-- a value is assigned to a target -/
def wpG (X : Cx) (tg : Expr) : TG := fun v σ H Q => ∀ (pins : List (Addr × Obj)) (s : Shared) (u : Value), Inv X pins σ H s → RelV v u → wpAny (model X.prog X.w) X.A (assign tg X.env u) (fun _ s' => ∃ σ' H', Inv X pins σ' H' s' ∧ Q σ' H') X.xe s
def Tg (tg : Expr) (Γ : List Sl) (s : Sl) (Γ' : List Sl) : Prop := ∀ (Δ : List Sl) (τ : List (Option V)) (σ : L2.St) (H : Hp) (v : V) (Q : L2.St → Hp → Prop), τ.length = Δ.length → stab Δ = true → Wf X.K H0 Oc (s :: (Δ ++ Γ)) (some v :: (τ ++ σ)) H →
  (∀ σ' H', Wf X.K H0 Oc (Δ ++ Γ') (τ ++ σ') H' → Q σ' H') → wpG X tg v σ H Q
end
theorem pg_wp {X : Cx} {tg : Expr} : PG X tg (wpG X tg) := ⟨fun pins s σ H v u Q I r h => h pins s u I r⟩
theorem wpG.of {X : Cx} {tg : Expr} {g : TG} {v : V} {σ : L2.St} {H : Hp} {Q : L2.St → Hp → Prop} (h : PG X tg g) (q : g v σ H Q) : wpG X tg v σ H Q := fun pins s u I r => h.run pins s σ H v u Q I r q
def Out.exit : Out → Bool
  | .nx _ => false
  | _ => true
/-- less is known -/
inductive Sub : List Sl → List Sl → Prop where
  | nil : Sub [] []
  | no {s : Sl} {G G' : List Sl} : Sub G G' → Sub (s :: G) (.no :: G')
  | eq {s : Sl} {G G' : List Sl} : Sub G G' → Sub (s :: G) (s :: G')
theorem Sub.refl : ∀ {G : List Sl}, Sub G G
  | [] => .nil
  | _ :: _ => .eq Sub.refl
theorem Sub.len : ∀ {G G' : List Sl}, Sub G G' → G.length = G'.length
  | _, _, .nil => rfl
  | _, _, .no h => congrArg Nat.succ h.len
  | _, _, .eq h => congrArg Nat.succ h.len
theorem Sub.at : ∀ {G G' : List Sl} {i : Nat} {s : Sl}, Sub G G' → G'[i]? = some s → s = .no ∨ G[i]? = some s
  | _, _, _, _, .nil, h => by simp at h
  | _, _, 0, _, .no _, h => .inl (Option.some.inj h).symm
  | _, _, 0, _, .eq _, h => .inr h
  | _, _, i + 1, _, .no z, h => Sub.at (i := i) z h
  | _, _, i + 1, _, .eq z, h => Sub.at (i := i) z h
theorem Sub.app : ∀ {Δ G G' : List Sl}, Sub G G' → Sub (Δ ++ G) (Δ ++ G')
  | [], _, _, h => h
  | _ :: _, _, _, h => .eq (Sub.app h)
section
variable {K : PySem.W.Frag} {H0 H : Hp} {O Oc : List Addr} {G G' Δ Γ Γ' : List Sl} {S : List (Option V)} {s : Sl}
theorem Wf.sub (W : Wf K H0 Oc G S H) (h : Sub G G') : Wf K H0 Oc G' S H := by
  obtain ⟨O, W⟩ := W
  refine ⟨O, W.sub, W.new, W.old, W.live, W.ex, W.len.trans h.len, fun i s x h1 h2 => ?_, fun i j p d d' h1 h2 h3 h4 => ?_⟩
  · rcases h.at h1 with e | e
    · rw [e]; trivial
    · exact W.ok i s x e h2
  · rcases h.at h1 with e | e
    · exact nomatch e
    · rcases h.at h3 with e' | e'
      · exact nomatch e'
      · exact W.nd i j p d d' e h2 e' h4
/-- a name is bound to the value on top -/
theorem WfO.set {v : V} {n : Nat} {τ : List (Option V)} {σ : L2.St} (hl : τ.length = Δ.length) (W : WfO K H0 Oc O (s :: (Δ ++ Γ)) (some v :: (τ ++ σ)) H) : WfO K H0 Oc O (Δ ++ Γ.set n s) (τ ++ σ.set n (some v)) H := by
  have hlen : σ.length = Γ.length := by
    have := W.len
    simp only [List.length_cons, List.length_append] at this
    omega
  have old : ∀ i, i ≠ Δ.length + n → (Δ ++ Γ.set n s)[i]? = (Δ ++ Γ)[i]? ∧ (τ ++ σ.set n (some v))[i]? = (τ ++ σ)[i]? := fun i hi => by
    by_cases h : i < Δ.length
    · rw [List.getElem?_append_left h, List.getElem?_append_left h, List.getElem?_append_left (by omega), List.getElem?_append_left (by omega)]
      exact ⟨rfl, rfl⟩
    · rw [List.getElem?_append_right (by omega), List.getElem?_append_right (by omega), List.getElem?_append_right (by omega), List.getElem?_append_right (by omega), List.getElem?_set_ne (by omega), List.getElem?_set_ne (by omega)]
      exact ⟨rfl, rfl⟩
  have new : ∀ i s' x, i = Δ.length + n → (Δ ++ Γ.set n s)[i]? = some s' → (τ ++ σ.set n (some v))[i]? = some x → s' = s ∧ x = some v := fun i s' x hi h1 h2 => by
    subst hi
    rw [List.getElem?_append_right (by omega)] at h1
    rw [List.getElem?_append_right (by omega), hl] at h2
    have e : Δ.length + n - Δ.length = n := by omega
    rw [e] at h1 h2
    have hn : n < Γ.length := by
      have := (List.getElem?_eq_some_iff.mp h1).1
      simpa using this
    rw [List.getElem?_set_self hn] at h1
    rw [List.getElem?_set_self (by omega)] at h2
    exact ⟨(Option.some.inj h1).symm, (Option.some.inj h2).symm⟩
  refine ⟨W.sub, W.new, W.old, W.live, W.ex, by simp [hl, hlen], fun i s' x h1 h2 => ?_, fun i j p d d' h1 h2 h3 h4 => ?_⟩
  · by_cases hi : i = Δ.length + n
    · obtain ⟨e1, e2⟩ := new i s' x hi h1 h2
      rw [e1, e2]
      exact W.head
    · obtain ⟨e1, e2⟩ := old i hi
      exact W.ok (i + 1) s' x (e1 ▸ h1) (e2 ▸ h2)
  · by_cases hi : i = Δ.length + n
    · obtain ⟨e1, e2⟩ := new i _ _ hi h1 h2
      by_cases hj : j = Δ.length + n
      · omega
      · obtain ⟨f1, f2⟩ := old j hj
        have := W.nd 0 (j + 1) p d d' (by rw [e1]; rfl) (by rw [e2]; rfl) (f1 ▸ h3) (f2 ▸ h4)
        omega
    · obtain ⟨e1, e2⟩ := old i hi
      by_cases hj : j = Δ.length + n
      · obtain ⟨f1, f2⟩ := new j _ _ hj h3 h4
        have := W.nd (i + 1) 0 p d d' (e1 ▸ h1) (e2 ▸ h2) (by rw [f1]; rfl) (by rw [f2]; rfl)
        omega
      · obtain ⟨f1, f2⟩ := old j hj
        exact Nat.succ.inj (W.nd (i + 1) (j + 1) p d d' (e1 ▸ h1) (e2 ▸ h2) (f1 ▸ h3) (f2 ▸ h4))
/-- an own object is changed -/
theorem WfO.mut {i : Nat} {p : Addr} {d d' : D} {o' : HO} (W : WfO K H0 Oc O G S H) (hb : stab G = true) (h1 : G[i]? = some (.ow d)) (h2 : S[i]? = some (some (.ref p))) (ho : RepH K (cut H O) d' p o') : WfO K H0 Oc O (G.set i (.ow d')) S (upd H p o') := by
  obtain ⟨hO, h0, o, hp, hr⟩ := W.owner h1 h2
  have hi : i < G.length := (List.getElem?_eq_some_iff.mp h1).1
  refine ⟨W.sub, W.new, W.old, fun a z q => ?_, fun a u z => ?_, by simpa using W.len, fun j s x h3 h4 => ?_, fun j k q d1 d2 h3 h4 h5 h6 => ?_⟩
  · by_cases e : a = p
    · rw [e, upd_same] at q; cases q
    · rw [upd_ne e] at q; exact W.live a z q
  · rw [upd_ne (ne_of_none z h0)]
    exact W.ex a u z
  · by_cases e : j = i
    · subst e
      rw [List.getElem?_set_self hi] at h3
      cases h3
      rw [h2] at h4
      cases h4
      exact ⟨p, o', rfl, hO, h0, upd_same, by rw [cut_upd hO]; exact ho⟩
    · rw [List.getElem?_set_ne (Ne.symm e)] at h3
      have ok := W.ok j s x h3 h4
      cases s with
      | no => trivial
      | va d => obtain ⟨v, g1, g2⟩ := ok; exact ⟨v, g1, by rw [cut_upd hO]; exact g2⟩
      | br d => obtain ⟨v, g1, g2⟩ := ok; exact ⟨v, g1, by rw [cut_upd hO]; exact g2⟩
      | bw d =>
        have := List.all_eq_true.mp hb _ (List.mem_of_getElem? h3)
        exact absurd this Bool.false_ne_true
      | ow d1 =>
        obtain ⟨q, o1, g1, g2, g3, g4, g5⟩ := ok
        subst g1
        have hne : q ≠ p := fun z => by
          subst z
          exact e (W.nd j i q d1 d h3 h4 h1 h2)
        exact ⟨q, o1, rfl, g2, g3, (upd_ne hne).trans g4, by rw [cut_upd hO]; exact g5⟩
  · have key : ∀ {j : Nat} {d1 : D}, (G.set i (.ow d'))[j]? = some (.ow d1) → ∃ d2, G[j]? = some (.ow d2) := fun {j d1} h => by
      by_cases e : j = i
      · exact ⟨d, by rw [e]; exact h1⟩
      · rw [List.getElem?_set_ne (Ne.symm e)] at h
        exact ⟨d1, h⟩
    obtain ⟨e1, g1⟩ := key h3
    obtain ⟨e2, g2⟩ := key h5
    exact W.nd j k q e1 e2 g1 h4 g2 h6
theorem stab_app : stab (Δ ++ Γ) = (stab Δ && stab Γ) := by unfold stab; rw [List.all_append]
theorem stab_cons : stab (s :: Γ) = (stab [s] && stab Γ) := stab_app (Δ := [s])
/-- .. one that a name holds -/
theorem WfO.mutN {n : Nat} {p : Addr} {d d' : D} {o' : HO} {τ : List (Option V)} {σ : L2.St} (hl : τ.length = Δ.length) (W : WfO K H0 Oc O (Δ ++ Γ) (τ ++ σ) H) (hΔ : stab Δ = true) (hΓ : stab Γ = true) (h1 : Γ[n]? = some (.ow d)) (h2 : σ[n]? = some (some (.ref p))) (ho : RepH K (cut H O) d' p o') :
    WfO K H0 Oc O (Δ ++ Γ.set n (.ow d')) (τ ++ σ) (upd H p o') := by
  have e1 : (Δ ++ Γ)[Δ.length + n]? = some (.ow d) := by
    rw [List.getElem?_append_right (by omega)]
    simpa using h1
  have e2 : (τ ++ σ)[Δ.length + n]? = some (some (.ref p)) := by
    rw [List.getElem?_append_right (by omega)]
    have : Δ.length + n - τ.length = n := by omega
    rw [this]
    exact h2
  have := W.mut (by rw [stab_app, hΔ, hΓ]; rfl) e1 e2 ho
  rw [List.set_append_right _ _ (by omega)] at this
  simpa using this
end
section
variable {X : Cx} {W : WX} {H0 : Hp} {Oc : List Addr} {Γ Γ1 Γ' : List Sl} {e a b c o : Expr} {es : List Expr} {rest body els : List Stmt} {s s0 s1 s2 : Sl} {ss : List Sl} {d d1 d2 : D} {ds ds1 ds2 : List D} {i j : Int} {pos p2 p apos : Pos} {x m : Str} {out o1 : Out} {n : Nat} {q : Bool}
theorem sds_nil : Sds X W H0 Oc Γ [] (.nx Γ) := fun Δ τ σ H D hl hs w k => wpSs.of pss_nil (k σ H w)
theorem sds_sub (h : Sds X W H0 Oc Γ1 rest out) (hs : Sub Γ Γ1) : Sds X W H0 Oc Γ rest out := fun Δ τ σ H D hl st w k => h Δ τ σ H D hl st (w.sub hs.app) k
/-- an own object that nobody changes any more -/
theorem sds_freeze (n : Nat) (h : Γ[n]? = some (.ow d)) (k : Sds X W H0 Oc (Γ.set n (.va d)) rest out) : Sds X W H0 Oc Γ rest out := fun Δ τ σ H D hl st w kk => by
  refine k Δ τ σ H D hl st ?_ kk
  obtain ⟨O, w⟩ := w
  obtain ⟨y, hy, p, o, rfl, h2, h3, h4, h5⟩ := slot_of hl w h
  have hn : n < Γ.length := (List.getElem?_eq_some_iff.mp h).1
  have e1 : (Δ ++ Γ)[Δ.length + n]? = some (.ow d) := by
    rw [List.getElem?_append_right (by omega)]
    simpa using h
  have e2 : (τ ++ σ)[Δ.length + n]? = some (some (.ref p)) := by
    rw [List.getElem?_append_right (by omega)]
    have : Δ.length + n - τ.length = n := by omega
    rw [this]
    exact hy
  have sub : ∀ a ∈ O.filter (· ≠ p), a ∈ O := fun a z => (List.mem_filter.mp z).1
  have npc : p ∉ Oc := fun z => w.old p z h3
  have key : ∀ j s', (Δ ++ Γ.set n (.va d))[j]? = some s' → (j = Δ.length + n ∧ s' = .va d) ∨ (j ≠ Δ.length + n ∧ (Δ ++ Γ)[j]? = some s') := fun j s' g => by
    have g' : ((Δ ++ Γ).set (Δ.length + n) (.va d))[j]? = some s' := by
      rw [List.set_append_right _ _ (by omega)]
      simpa using g
    by_cases ej : j = Δ.length + n
    · subst ej
      rw [List.getElem?_set_self (by simp; omega)] at g'
      exact .inl ⟨rfl, (Option.some.inj g').symm⟩
    · rw [List.getElem?_set_ne (Ne.symm ej)] at g'
      exact .inr ⟨ej, g'⟩
  refine ⟨O.filter (· ≠ p), fun a z => List.mem_filter.mpr ⟨w.sub a z, by simpa using fun q : a = p => npc (q ▸ z)⟩, fun a z => w.new a (sub a z), w.old, fun a z => w.live a (sub a z), w.ex, by simpa using w.len, fun j s' x g1 g2 => ?_, fun j k q d1 d2 g1 g2 g3 g4 => ?_⟩
  · rcases key j s' g1 with ⟨ej, es⟩ | ⟨ej, g1'⟩
    · subst ej
      subst es
      rw [e2] at g2
      cases g2
      refine ⟨.ref p, rfl, RepH.rep (RepH.mono (cut_sub sub) h5) ?_⟩
      rw [cut_out (by simp)]
      exact h4
    · refine SlOk.less (fun d' hs hx => ?_) (w.ok j s' x g1' g2)
      subst hs
      exact ej (w.nd j (Δ.length + n) p d' d g1' (hx ▸ g2) e1 e2)
  · rcases key j _ g1 with ⟨_, es⟩ | ⟨_, g1'⟩
    · exact nomatch es
    · rcases key k _ g3 with ⟨_, es⟩ | ⟨_, g3'⟩
      · exact nomatch es
      · exact w.nd j k q d1 d2 g1' g2 g3' g4
theorem tg_name {pos' : Pos} (n : Nat) (hN : X.N.Nodup) (hi : X.N[n]? = some x) (hx : Loc X.env.scope x) (hf : X.fn x = true ∨ X.env.scope.names.lookup x = some .local) : Tg X H0 Oc (.Name x pos') Γ s (Γ.set n s) :=
  fun Δ τ σ H v Q hl st ⟨O, w⟩ k => wpG.of (pg_name hN hi hx hf) (k _ H ⟨O, w.set hl⟩)
theorem sds_set {pos' : Pos} (n : Nat) (he : Ev X H0 Oc Γ e s) (hr : Sds X W H0 Oc (Γ.set n s) rest out) (hN : X.N.Nodup) (hi : X.N[n]? = some x) (hx : Loc X.env.scope x) (hs : swapsWith e (some (.Name x pos')) pos.line X.env = pure false) (hf : X.fn x = true ∨ X.env.scope.names.lookup x = some .local) :
    Sds X W H0 Oc Γ (.Assign [.Name x pos'] e pos :: rest) out := fun Δ τ σ H D hl st w k =>
  wpSs.of (pss_cons (ps_set hN hi hx pe_wp hs hf) pss_wp) (he Δ τ σ H _ hl w fun v H1 ⟨O, w1⟩ => hr Δ τ _ H1 D hl st ⟨O, w1.set hl⟩ k)
theorem sds_ret (he : Ev X H0 Oc Γ e s) : Sds X W H0 Oc Γ (.Return (some e) pos :: rest) (.ret s) := fun Δ τ σ H D hl st w k =>
  wpSs.of (pss_cons (ps_ret pe_wp) pss_wp) (he Δ τ σ H _ hl w fun v H1 w1 => k v H1 w1.only)
theorem sds_retN : Sds X W H0 Oc Γ (.Return none pos :: rest) (.ret (.va .non)) := fun Δ τ σ H D hl st ⟨O, w⟩ k =>
  wpSs.of (pss_cons ps_retN pss_wp) (k .non H (Wf.only ⟨O, w.flat rfl (show Rep X.K H .non .non from rfl)⟩))
theorem sds_pass (hr : Sds X W H0 Oc Γ rest out) : Sds X W H0 Oc Γ (.Pass pos :: rest) out := fun Δ τ σ H D hl st w k => wpSs.of (pss_cons ps_pass pss_wp) (hr Δ τ σ H D hl st w k)
theorem sds_brk : Sds X W H0 Oc Γ (.Break pos :: rest) (.brk Γ) := fun Δ τ σ H D hl st w k => wpSs.of (pss_cons ps_break pss_wp) (k σ H w)
theorem sds_cnt : Sds X W H0 Oc Γ (.Continue pos :: rest) (.cnt Γ) := fun Δ τ σ H D hl st w k => wpSs.of (pss_cons ps_continue pss_wp) (k σ H w)
theorem sds_expr (he : Ev X H0 Oc Γ e s) (hr : Sds X W H0 Oc Γ rest out) (hs : swapsWith e none pos.line X.env = pure false := by rfl) : Sds X W H0 Oc Γ (.Expr e pos :: rest) out := fun Δ τ σ H D hl st w k =>
  wpSs.of (pss_cons (ps_expr pe_wp hs) pss_wp) (he Δ τ σ H _ hl w fun v H1 w1 => hr Δ τ σ H1 D hl st w1.pop k)
/-- how a sub-block's ends reach the outer ones -/
theorem Sat.exit {Δ : List Sl} {τ : List (Option V)} {D : Ends} {N : L2.St → Hp → Prop} (hx : out.exit = true) (h : Sat X W H0 Oc Δ τ D out) : Sat X W H0 Oc Δ τ { D with nx := N } out := by
  cases out <;> first | exact absurd hx Bool.false_ne_true | exact h
/-- if c: something that leaves; rest -/
theorem sds_ifx (hc : Et X H0 Oc Γ c q) (h1 : q = true → Sds X W H0 Oc Γ body out ∧ out.exit = true) (h2 : q = false → Sds X W H0 Oc Γ rest out) : Sds X W H0 Oc Γ (.If c body [] pos :: rest) out := fun Δ τ σ H D hl st w k =>
  wpSs.of (pss_cons (ps_if pt_wp pss_wp pss_nil) pss_wp) (hc Δ τ σ H _ hl w fun H1 w1 => by
    cases q with
    | true => exact (h1 rfl).1 Δ τ σ H1 _ hl st w1 (k.exit (h1 rfl).2)
    | false => exact h2 rfl Δ τ σ H1 D hl st w1 k)
/-- if c: a else: b; both go on -/
theorem sds_ifn (Γ1 : List Sl) (hc : Et X H0 Oc Γ c q) (h1 : q = true → Sds X W H0 Oc Γ body (.nx Γ1)) (h2 : q = false → Sds X W H0 Oc Γ els (.nx Γ1)) (hr : Sds X W H0 Oc Γ1 rest out) : Sds X W H0 Oc Γ (.If c body els pos :: rest) out := fun Δ τ σ H D hl st w k =>
  wpSs.of (pss_cons (ps_if pt_wp pss_wp pss_wp) pss_wp) (hc Δ τ σ H _ hl w fun H1 w1 => by
    cases q with
    | true => exact h1 rfl Δ τ σ H1 _ hl st w1 fun σ' H' w' => hr Δ τ σ' H' D hl st w' k
    | false => exact h2 rfl Δ τ σ H1 _ hl st w1 fun σ' H' w' => hr Δ τ σ' H' D hl st w' k)
/-- the general form: each way tells its own end -/
theorem sds_if (hc : Et X H0 Oc Γ c q) (h1 : q = true → ∃ o1, Sds X W H0 Oc Γ body o1 ∧ (match o1 with | .nx Γ1 => Sds X W H0 Oc Γ1 rest out | o1 => o1 = out))
    (h2 : q = false → ∃ o1, Sds X W H0 Oc Γ els o1 ∧ (match o1 with | .nx Γ1 => Sds X W H0 Oc Γ1 rest out | o1 => o1 = out)) : Sds X W H0 Oc Γ (.If c body els pos :: rest) out := fun Δ τ σ H D hl st w k =>
  wpSs.of (pss_cons (ps_if pt_wp pss_wp pss_wp) pss_wp) (hc Δ τ σ H _ hl w fun H1 w1 => by
    have fin : ∀ {st' : List Stmt} {o1 : Out}, Sds X W H0 Oc Γ st' o1 → (match o1 with | .nx Γ1 => Sds X W H0 Oc Γ1 rest out | o1 => o1 = out) → wpSs X st' { D with nx := fun σ H => wpSs X rest D σ H } σ H1 := fun {st' o1} g1 g2 => by
      refine g1 Δ τ σ H1 _ hl st w1 ?_
      cases o1 with
      | nx Γ1 => exact fun σ' H' w' => g2 Δ τ σ' H' D hl st w' k
      | ret s => subst g2; exact k
      | brk s => subst g2; exact k
      | cnt s => subst g2; exact k
      | exc C ns ds Γe => subst g2; exact k
    cases q with
    | true =>
      obtain ⟨o1, g1, g2⟩ := h1 rfl
      exact fin g1 g2
    | false =>
      obtain ⟨o1, g1, g2⟩ := h2 rfl
      exact fin g1 g2)
/-! ### lists changed in place -/
theorem sds_app {cpos epos : Pos} (n : Nat) (h : Γ[n]? = some (.ow (.lst ds))) (hst : stab Γ = true) (he : Ev X H0 Oc Γ e (.va d)) (hn : ds.length ≤ 1000000) (hr : Sds X W H0 Oc (Γ.set n (.ow (.lst (ds ++ [d])))) rest out)
    (hN : X.N[n]? = some x) (hv : Vis X.env.scope x) (hd : (x == ("__debug__" : Str)) = false) (hcd : (x == ("__classdict__" : Str)) = false)
    (hbase : attributeBase (.Name x p) "append" X.env (eval (.Name x p) X.env) = eval (.Name x p) X.env := by rfl)
    (hfew : ((backTo cpos (starEach [e] X.env)).all (fun x => !x.1) && (backToKw cpos (keywordEach [] X.env)).all (fun x => x.1.isSome)
      && decide (([e] : List Expr).length + ([] : List Keyword).length + (if ([] : List Keyword).isEmpty then 0 else 1) < 30)) = true := by rfl)
    (hline : (apos.endLine == cpos.line) = true := by rfl) (hs : starEach [e] X.env = (false, eval e X.env) :: starEach [] X.env := by rfl) (hplain : (backTo cpos (starEach [] X.env)).any (·.1) = false := by rfl)
    (hsw : swapsWith (.Call (.Attribute (.Name x p) "append" apos) [e] [] cpos) none epos.line X.env = pure false := by rfl) :
    Sds X W H0 Oc Γ (.Expr (.Call (.Attribute (.Name x p) "append" apos) [e] [] cpos) epos :: rest) out := fun Δ τ σ H D hl st w k => by
  refine wpSs.of (pss_cons (ps_expr (pe_bm PySem.F.plainAttrs_list PySem.F.slot_list_append PySem.F.type_list_append mt_append (pe_var hN hv hd hcd) (pa_cons pe_wp pa_nil hs) hbase hfew hline hs hplain) hsw) pss_wp) ?_
  obtain ⟨O0, w0⟩ := id w
  obtain ⟨y, hy, pp, oo, rfl, g2, g3, g4, g5⟩ := slot_of hl w0 h
  refine ⟨.ref pp, hy, ?_, ?_⟩
  · cases oo <;> first
      | exact g5.elim
      | exact .inl ⟨rfl, _, .of g4⟩
  · refine he Δ τ σ H _ hl w fun v H1 ⟨O, w1⟩ => ?_
    obtain ⟨y', hy', q, u, e1, k2, k3, k4, k5⟩ := slot_of hl w1.pop h
    rw [hy] at hy'
    cases hy'
    cases e1
    obtain ⟨v', e2, rv⟩ := w1.head
    cases e2
    cases u <;> first | exact k5.elim | skip
    rename_i vs
    have k5' : Reps X.K (cut H1 O) ds vs := k5
    refine ⟨pp, vs, v, rfl, rfl, k4, ?_, ?_⟩
    · rw [k5'.len, sizeLine_eq]
      omega
    · exact hr Δ τ σ _ D hl st ⟨O, w1.pop.mutN hl st hst h hy (o' := .lst (vs ++ [v])) (d' := .lst (ds ++ [d])) (k5'.app (Reps.one rv))⟩ k
end
end Y

namespace Y
open PySem L2

/-! ## what is walked -/
structure ItOk (K : PySem.W.Frag) (H0 : Hp) (Oc : List Addr) (J : It) (Δh : List Sl) (τh : List (Option V)) (ds : List D) : Prop where
  len : τh.length = Δh.length
  st : stab Δh = true
  go : ∀ (i : Nat) (Δp G : List Sl) (τp S : List (Option V)) (H : Hp), τp.length = Δp.length → i < ds.length → Wf K H0 Oc (Δp ++ (Δh ++ G)) (τp ++ (τh ++ S)) H →
    J.go i H ∧ ∀ x H', J.yld i H x H' → ∃ d, ds[i]? = some d ∧ Wf K H0 Oc (.va d :: (Δp ++ (Δh ++ G))) (some x :: (τp ++ (τh ++ S))) H'
  stop : ∀ (i : Nat) (Δp G : List Sl) (τp S : List (Option V)) (H : Hp), τp.length = Δp.length → ds.length ≤ i → Wf K H0 Oc (Δp ++ (Δh ++ G)) (τp ++ (τh ++ S)) H → J.stop i H
theorem WfO.drop {K : PySem.W.Frag} {H0 : Hp} {O Oc : List Addr} {G : List Sl} {S : List (Option V)} {H : Hp} : ∀ {Δ : List Sl} {τ : List (Option V)}, τ.length = Δ.length → WfO K H0 Oc O (Δ ++ G) (τ ++ S) H → WfO K H0 Oc O G S H
  | [], [], _, w => w
  | [], _ :: _, h, _ => by simp at h
  | _ :: _, [], h, _ => by simp at h
  | _ :: Δ, _ :: τ, h, w => WfO.drop (Δ := Δ) (τ := τ) (by simpa using h) w.pop
def Ei (X : Cx) (H0 : Hp) (Oc : List Addr) (Γ : List Sl) (tg iter : Expr) (ds : List D) : Prop := ∃ wi : TI, PI X tg iter wi ∧ ∀ (Δ : List Sl) (τ : List (Option V)) (σ : L2.St) (H : Hp) (R : It → Hp → Prop), τ.length = Δ.length → Wf X.K H0 Oc (Δ ++ Γ) (τ ++ σ) H →
  (∀ J Δh τh H', (∀ H0' Oc', ItOk X.K H0' Oc' J Δh τh ds) → Δh.map Sl.arg = Δh → Wf X.K H0 Oc (Δh ++ (Δ ++ Γ)) (τh ++ (τ ++ σ)) H' → R J H') → wi σ H R
theorem Ei.as {X : Cx} {H0 : Hp} {Oc : List Addr} {Γ : List Sl} {tg iter : Expr} {ds ds' : List D} (h : Ei X H0 Oc Γ tg iter ds) (e : ds = ds') : Ei X H0 Oc Γ tg iter ds' := e ▸ h
section
variable {X : Cx} {W : WX} {H0 : Hp} {Oc : List Addr} {Γ Γ1 Γ' : List Sl} {e a b c o tg iter : Expr} {es : List Expr} {rest body els : List Stmt} {s s0 s1 s2 : Sl} {ss : List Sl} {d d1 d2 : D} {ds ds1 ds2 : List D} {i j : Int} {pos p2 p apos : Pos} {x m : Str} {out o1 : Out} {n : Nat} {q : Bool}
theorem Reps.lt_get {K : PySem.W.Frag} {H : Hp} {vs : List V} {i : Nat} (h : Reps K H ds vs) (hi : i < ds.length) : ∃ d v, ds[i]? = some d ∧ vs[i]? = some v ∧ Rep K H d v := by
  have e : ds[i]? = some ds[i] := List.getElem?_eq_getElem hi
  obtain ⟨v, h1, h2⟩ := h.get e
  exact ⟨_, v, e, h1, h2⟩
/-- a slot that stands by itself while a loop runs -/
def Sl.held : Sl → Option D
  | .va d => some d
  | .br d => some d
  | _ => none
theorem held_b {K : PySem.W.Frag} {O : List Addr} {H : Hp} {v : V} (e : Ex H0 H) (h : SlOk K H0 O H s (some v)) (hs : s.held = some d) : RepB K H (cut H O) d v := h.b e (by cases s <;> first | exact hs | cases hs)
theorem held_stab (hs : s.held = some d) : stab [s] = true := by cases s <;> first | rfl | cases hs
theorem held_arg (hs : s.held = some d) : [s].map Sl.arg = [s] := by cases s <;> first | rfl | cases hs
theorem it_lst {K : PySem.W.Frag} {l : Addr} (hs : s.held = some (.lst ds)) : ItOk K H0 Oc (Itl K l) [s] [some (.ref l)] ds := by
  refine ⟨rfl, held_stab hs, fun i Δp G τp S H hp hi ⟨O, w⟩ => ?_, fun i Δp G τp S H hp hi ⟨O, w⟩ => ?_⟩
  · obtain ⟨l', vs, e, g1, g2⟩ := held_b w.ex (w.drop hp).head hs
    cases e
    obtain ⟨d', v', e1, e2, rv⟩ := g2.lt_get hi
    refine ⟨⟨vs, v', .of g1, e2⟩, fun x H' y => ?_⟩
    obtain ⟨eH, y⟩ := y
    subst eH
    have e3 := y vs (.of g1)
    rw [e2] at e3
    cases e3
    exact ⟨d', e1, O, w.push ⟨_, rfl, rv⟩ fun _ z => nomatch z⟩
  · obtain ⟨l', vs, e, g1, g2⟩ := held_b w.ex (w.drop hp).head hs
    cases e
    exact ⟨vs, .of g1, by rw [g2.len]; exact hi⟩
theorem it_tup {K : PySem.W.Frag} {l : Addr} (hs : s.held = some (.tup ds)) : ItOk K H0 Oc (Itt K l) [s] [some (.ref l)] ds := by
  refine ⟨rfl, held_stab hs, fun i Δp G τp S H hp hi ⟨O, w⟩ => ?_, fun i Δp G τp S H hp hi ⟨O, w⟩ => ?_⟩
  · obtain ⟨l', vs, e, g1, g2⟩ := held_b w.ex (w.drop hp).head hs
    cases e
    obtain ⟨d', v', e1, e2, rv⟩ := g2.lt_get hi
    refine ⟨⟨vs, v', .of g1, e2⟩, fun x H' y => ?_⟩
    obtain ⟨eH, y⟩ := y
    subst eH
    have e3 := y vs (.of g1)
    rw [e2] at e3
    cases e3
    exact ⟨d', e1, O, w.push ⟨_, rfl, rv⟩ fun _ z => nomatch z⟩
  · obtain ⟨l', vs, e, g1, g2⟩ := held_b w.ex (w.drop hp).head hs
    cases e
    exact ⟨vs, .of g1, by rw [g2.len]; exact hi⟩
theorem ei_lst (he : Ev X H0 Oc Γ iter s) (hs : s.held = some (.lst ds)) : Ei X H0 Oc Γ tg iter ds := ⟨_, pi_list pe_wp, fun Δ τ σ H R hl w k => he Δ τ σ H _ hl w fun v H1 w1 => by
  obtain ⟨O, w1'⟩ := id w1
  obtain ⟨l, vs, rfl, h1, h2⟩ := held_b w1'.ex w1'.head hs
  exact ⟨l, rfl, ⟨vs, .of h1⟩, k _ [s] [some (.ref l)] H1 (fun _ _ => it_lst hs) (held_arg hs) w1⟩⟩
theorem ei_tup (he : Ev X H0 Oc Γ iter s) (hs : s.held = some (.tup ds)) : Ei X H0 Oc Γ tg iter ds := ⟨_, pi_tup pe_wp, fun Δ τ σ H R hl w k => he Δ τ σ H _ hl w fun v H1 w1 => by
  obtain ⟨O, w1'⟩ := id w1
  obtain ⟨l, vs, rfl, h1, h2⟩ := held_b w1'.ex w1'.head hs
  exact ⟨l, rfl, ⟨vs, .of h1⟩, k _ [s] [some (.ref l)] H1 (fun _ _ => it_tup hs) (held_arg hs) w1⟩⟩
/-- range(..) -/
def rngD (lo : Int) (n : Nat) : List D := (List.range n).map fun (i : Nat) => .int (lo + (i : Int))
theorem rngD_get {lo : Int} {n i : Nat} (h : i < n) : (rngD lo n)[i]? = some (.int (lo + (i : Int))) := by
  unfold rngD
  rw [List.getElem?_map, List.getElem?_range h]
  rfl
theorem rngD_len {lo : Int} {n : Nat} : (rngD lo n).length = n := by unfold rngD; simp
theorem it_rng {K : PySem.W.Frag} {lo : Int} {n : Nat} : ItOk K H0 Oc (Itr lo n) [] [] (rngD lo n) := by
  refine ⟨rfl, rfl, fun i Δp G τp S H hp hi ⟨O, w⟩ => ?_, fun i Δp G τp S H hp hi w => ?_⟩
  · rw [rngD_len] at hi
    refine ⟨hi, fun x H' y => ?_⟩
    obtain ⟨eH, ex⟩ := y
    subst eH
    exact ⟨_, rngD_get hi, O, w.flat rfl (by rw [ex]; exact (show Rep K H' (.int (lo + (i : Int))) (.int (lo + (i : Int))) from rfl))⟩
  · rw [rngD_len] at hi
    exact hi
theorem ei_rng1 {j : Int} (ha : Ev X H0 Oc Γ a (.va (.int j))) (h1 : -1000000000 ≤ j) (h2 : j ≤ 1000000000) (hm : X.mg "range" = none) (hg : Gl X "range" := by rfl) (hs : starEach [a] X.env = [(false, eval a X.env)] := by rfl) (hs' : starEach [a] X.env = (false, eval a X.env) :: starEach [] X.env := by rfl) :
    Ei X H0 Oc Γ tg (.Call (.Name "range" p) [a] [] pos) (rngD 0 j.toNat) := ⟨_, pi_range1 hg hm (pa_cons pe_wp pa_nil hs') hs, fun Δ τ σ H R hl w k => ha Δ τ σ H _ hl w fun v H1 ⟨O, w1⟩ => by
  obtain ⟨u, e, r⟩ := w1.head
  cases e
  exact ⟨j, by rw [show v = _ from r], by omega, by omega, k _ [] [] H1 (fun _ _ => it_rng) rfl ⟨O, w1.pop⟩⟩⟩
theorem ei_rng2 {i j : Int} (ha : Ev X H0 Oc Γ a (.va (.int i))) (hb : Ev X H0 Oc Γ b (.va (.int j))) (h1 : -1000000000 ≤ i ∧ i ≤ 1000000000 ∧ -1000000000 ≤ j ∧ j ≤ 1000000000) (hm : X.mg "range" = none) (hg : Gl X "range" := by rfl)
    (hs1 : starEach [a, b] X.env = (false, eval a X.env) :: starEach [b] X.env := by rfl) (hs2 : starEach [b] X.env = (false, eval b X.env) :: starEach [] X.env := by rfl) :
    Ei X H0 Oc Γ tg (.Call (.Name "range" p) [a, b] [] pos) (rngD i (j - i).toNat) := ⟨_, pi_range2 hg hm (pa_cons pe_wp (pa_cons pe_wp pa_nil hs2) hs1) (hs1.trans (by rw [hs2] <;> rfl)) (hs2.trans rfl), fun Δ τ σ H R hl w k => ha Δ τ σ H _ hl w fun v H1 w1 => hb (_ :: Δ) (_ :: τ) σ H1 _ (by simp [hl]) w1 fun v2 H2 ⟨O, w2⟩ => by
  obtain ⟨u, e, r⟩ := w2.head
  obtain ⟨u', e', r'⟩ := w2.pop.head
  cases e
  cases e'
  exact ⟨i, j, by rw [show v2 = _ from r, show v = _ from r'], ⟨by omega, by omega, by omega, by omega⟩, k _ [] [] H2 (fun _ _ => it_rng) rfl ⟨O, w2.pop.pop⟩⟩⟩
/-- enumerate(list) -/
def enumD (ds : List D) : List D := (List.range ds.length).zipWith (fun (i : Nat) d => .tup [.int (i : Int), d]) ds
theorem enumD_get {i : Nat} {d : D} (h : ds[i]? = some d) : (enumD ds)[i]? = some (.tup [.int (i : Int), d]) := by
  unfold enumD
  have hi := (List.getElem?_eq_some_iff.mp h).1
  rw [List.getElem?_zipWith, List.getElem?_range hi, h]
theorem enumD_len : (enumD ds).length = ds.length := by unfold enumD; simp
theorem it_enum {K : PySem.W.Frag} {l : Addr} (hs : s.held = some (.lst ds)) : ItOk K H0 Oc (Ite K l) [s] [some (.ref l)] (enumD ds) := by
  refine ⟨rfl, held_stab hs, fun i Δp G τp S H hp hi ⟨O, w⟩ => ?_, fun i Δp G τp S H hp hi ⟨O, w⟩ => ?_⟩
  · obtain ⟨l', vs, e, g1, g2⟩ := held_b w.ex (w.drop hp).head hs
    cases e
    rw [enumD_len] at hi
    obtain ⟨d', v', e1, e2, rv⟩ := g2.lt_get hi
    refine ⟨⟨vs, v', .of g1, e2⟩, fun x H' y => ?_⟩
    obtain ⟨T, z, ex, hT, eH, y⟩ := y
    subst eH
    subst ex
    have e3 := y vs (.of g1)
    rw [e2] at e3
    cases e3
    exact ⟨_, enumD_get e1, O, w.newTup hT (Reps.cons (show Rep K _ (.int (i : Int)) (.int (i : Int)) from rfl) (Reps.one rv))⟩
  · obtain ⟨l', vs, e, g1, g2⟩ := held_b w.ex (w.drop hp).head hs
    cases e
    rw [enumD_len] at hi
    exact ⟨vs, .of g1, by rw [g2.len]; exact hi⟩
theorem ei_enum {elts : List Expr} {kk : Nat} {tpos : Pos} (ha : Ev X H0 Oc Γ a s) (hs : s.held = some (.lst ds)) (hm : X.mg "enumerate" = none) (hg : Gl X "enumerate" := by rfl) (hst : starEach [a] X.env = [(false, eval a X.env)] := by rfl) (hst' : starEach [a] X.env = (false, eval a X.env) :: starEach [] X.env := by rfl) :
    Ei X H0 Oc Γ (.Tuple elts kk tpos) (.Call (.Name "enumerate" p) [a] [] pos) (enumD ds) := ⟨_, pi_enum hg hm (pa_cons pe_wp pa_nil hst') hst, fun Δ τ σ H R hl w k => ha Δ τ σ H _ hl w fun v H1 w1 => by
  obtain ⟨O, w1'⟩ := id w1
  obtain ⟨l, vs, rfl, h1, h2⟩ := held_b w1'.ex w1'.head hs
  exact ⟨l, vs, rfl, .of h1, k _ [s] [some (.ref l)] H1 (fun _ _ => it_enum hs) (held_arg hs) w1⟩⟩
/-! ## for -/
/-- what a turn's end asks -/
def TurnOk (X : Cx) (W : WX) (H0 : Hp) (Oc : List Addr) (rest : List Stmt) (out : Out) (Nx : List Sl → Prop) : Out → Prop
  | .nx Γ => Nx Γ
  | .cnt Γ => Nx Γ
  | .brk Γ => Sds X W H0 Oc Γ rest out
  | o => o = out
theorem app3 {α : Type} {a b c : List α} : a ++ (b ++ c) = (a ++ b) ++ c := (List.append_assoc a b c).symm
theorem Wf.drop {K : PySem.W.Frag} {G : List Sl} {S : List (Option V)} {H : Hp} : ∀ {Δ : List Sl} {τ : List (Option V)}, τ.length = Δ.length → Wf K H0 Oc (Δ ++ G) (τ ++ S) H → Wf K H0 Oc G S H
  | [], [], _, w => w
  | [], _ :: _, h, _ => by simp at h
  | _ :: _, [], h, _ => by simp at h
  | _ :: Δ, _ :: τ, h, w => Wf.drop (Δ := Δ) (τ := τ) (by simpa using h) w.pop
/-- what lies below the head is left out -/
theorem Wf.drop1 {K : PySem.W.Frag} {G : List Sl} {S : List (Option V)} {H : Hp} {y : Option V} {Δ : List Sl} {τ : List (Option V)} (hl : τ.length = Δ.length) (w : Wf K H0 Oc (s :: (Δ ++ G)) (y :: (τ ++ S)) H) : Wf K H0 Oc (s :: G) (y :: S) H := by
  obtain ⟨O, w⟩ := w
  have low : ∀ {i : Nat}, (s :: (Δ ++ G))[if i = 0 then 0 else i + Δ.length]? = (s :: G)[i]? ∧ (y :: (τ ++ S))[if i = 0 then 0 else i + Δ.length]? = (y :: S)[i]? := fun {i} => by
    cases i with
    | zero => exact ⟨rfl, rfl⟩
    | succ i =>
      rw [if_neg (Nat.succ_ne_zero i)]
      have e : i + 1 + Δ.length = (Δ.length + i) + 1 := by omega
      rw [e]
      refine ⟨?_, ?_⟩
      · show (Δ ++ G)[Δ.length + i]? = G[i]?
        rw [List.getElem?_append_right (by omega)]
        simp
      · show (τ ++ S)[Δ.length + i]? = S[i]?
        rw [← hl, List.getElem?_append_right (by omega)]
        simp
  refine ⟨O, w.sub, w.new, w.old, w.live, w.ex, ?_, fun i s' x h1 h2 => w.ok _ s' x (low.1.trans h1) (low.2.trans h2), fun i j p d d' h1 h2 h3 h4 => ?_⟩
  · have := w.len
    simp only [List.length_cons, List.length_append] at this ⊢
    omega
  · have := w.nd _ _ p d d' (low.1.trans h1) (low.2.trans h2) (low.1.trans h3) (low.2.trans h4)
    by_cases hi : i = 0
    · by_cases hj : j = 0
      · omega
      · rw [if_pos hi, if_neg hj] at this; omega
    · by_cases hj : j = 0
      · rw [if_neg hi, if_pos hj] at this; omega
      · rw [if_neg hi, if_neg hj] at this; omega
theorem sat_in {Δ Δh : List Sl} {τ τh : List (Option V)} {D : Ends} {N : L2.St → Hp → Prop} {o : Out} (hl : τh.length = Δh.length) (hx : (∃ s, o = .ret s) ∨ ∃ C ns ds Γe, o = .exc C ns ds Γe) (h : Sat X W H0 Oc Δ τ D o) (Nb : L2.St → Hp → Prop) :
    Sat X W H0 Oc (Δh ++ Δ) (τh ++ τ) { D with nx := N, ct := N, bk := Nb } o := by
  rcases hx with ⟨s, rfl⟩ | ⟨C, ns, ds, Γe, rfl⟩
  · exact h
  · intro d σ H hw
    refine h d σ H ?_
    cases Γe with
    | none => exact hw
    | some Γe =>
      have hw' : Wf X.K H0 Oc (.va (.xd ns ds) :: ((Δh ++ Δ) ++ Γe)) (some (.ref d) :: ((τh ++ τ) ++ σ)) H := hw
      rw [← app3, ← app3] at hw'
      exact hw'.drop1 hl
theorem sds_for (G : Nat → List Sl) (P : Nat → Prop) (hp : PassesOwn (model X.prog X.w) X.A X.env X.xe) (hc : X.calm = true) (hi : Ei X H0 Oc Γ tg iter ds) (h0 : Sub Γ (G 0)) (p0 : P 0)
    (hb : ∀ i d, ds[i]? = some d → P i → ∃ Γ1 ob, Tg X H0 Oc tg (G i) (.va d) Γ1 ∧ Sds X W H0 Oc Γ1 body ob ∧ TurnOk X W H0 Oc rest out (fun Γ2 => Sub Γ2 (G (i + 1)) ∧ P (i + 1)) ob)
    (hr : P ds.length → Sds X W H0 Oc (G ds.length) rest out)
    (hs : ∀ x, foldedSetIterable iter X.env x = pure x := by intro _; rfl) : Sds X W H0 Oc Γ (.For tg iter body [] pos :: rest) out := fun Δ τ σ H D hl st w k => by
  obtain ⟨wi, hpi, hwi⟩ := hi
  refine wpSs.of (pss_cons (ps_for hp hc hpi pg_wp pss_wp hs) pss_wp) ?_
  refine hwi Δ τ σ H _ hl w fun J Δh τh H1 ok harg w1 => ?_
  have ok := ok H0 Oc
  have hl2 : (τh ++ τ).length = (Δh ++ Δ).length := by rw [List.length_append, List.length_append, hl, ok.len]
  have st2 : stab (Δh ++ Δ) = true := by rw [stab_app, ok.st, st]; rfl
  refine ⟨fun i m σ H => m = ds.length - i ∧ i ≤ ds.length ∧ P i ∧ Wf X.K H0 Oc ((Δh ++ Δ) ++ G i) ((τh ++ τ) ++ σ) H, ⟨ds.length, by simp, Nat.zero_le _, p0, ?_⟩, ?_⟩
  · rw [app3, app3] at w1
    exact w1.sub h0.app
  rintro i m σ1 H2 ⟨rfl, hi, pi, w2⟩
  by_cases hlt : i < ds.length
  · have w2' := w2
    rw [← app3, ← app3] at w2'
    obtain ⟨g1, g2⟩ := ok.go i [] _ [] _ H2 rfl hlt w2'
    refine .inr ⟨g1, fun σ' H' => P (i + 1) ∧ Wf X.K H0 Oc ((Δh ++ Δ) ++ G (i + 1)) ((τh ++ τ) ++ σ') H', fun σ' H' ⟨q1, q2⟩ => ⟨ds.length - (i + 1), by omega, rfl, hlt, q1, q2⟩, fun x H' y => ?_⟩
    obtain ⟨d, hd, w3⟩ := g2 x H' y
    rw [List.nil_append, List.nil_append, app3, app3] at w3
    obtain ⟨Γ1, ob, t1, t2, t3⟩ := hb i d hd pi
    refine t1 (Δh ++ Δ) (τh ++ τ) σ1 H' x _ hl2 st2 w3 fun σ2 H3 w4 => ?_
    refine t2 (Δh ++ Δ) (τh ++ τ) σ2 H3 _ hl2 st2 w4 ?_
    cases ob with
    | nx Γ2 => exact fun σ' H' w' => ⟨t3.2, w'.sub t3.1.app⟩
    | cnt Γ2 => exact fun σ' H' w' => ⟨t3.2, w'.sub t3.1.app⟩
    | brk Γ2 =>
      refine fun σ' H' w' => ?_
      rw [← app3, ← app3] at w'
      exact t3 Δ τ σ' H' D hl st (w'.drop ok.len) k
    | ret s =>
      have e : Out.ret s = out := t3
      subst e
      exact k
    | exc C ns ds' Γe =>
      have e : Out.exc C ns ds' Γe = out := t3
      subst e
      exact sat_in (D := D) ok.len (.inr ⟨C, ns, ds', Γe, rfl⟩) k _
  · have e : i = ds.length := by omega
    subst e
    have w2' := w2
    rw [← app3, ← app3] at w2'
    exact .inl ⟨ok.stop _ [] _ [] _ H2 rfl (Nat.le_refl _) w2', hr pi Δ τ σ1 H2 D hl st (w2'.drop ok.len) k⟩
end
end Y

namespace Y
open PySem L2

/-! ## comprehensions: like a callee that reads what stands -/
def wipeG (Γ : List Sl) : List Nat → List Sl
  | [] => Γ
  | v :: vs => (wipeG Γ vs).set v .no
def Tgw (X : Cx) (H0 : Hp) (Oc : List Addr) (vs : List Nat) (tg : Expr) (Γ : List Sl) (s : Sl) (Γ' : List Sl) : Prop := ∀ (Δ : List Sl) (τ : List (Option V)) (σ : L2.St) (H : Hp) (v : V) (Q : L2.St → Hp → Prop), τ.length = Δ.length → Wf X.K H0 Oc (s :: (Δ ++ Γ)) (some v :: (τ ++ σ)) H →
  (∀ σ' H', wipe σ' vs = wipe σ vs → Wf X.K H0 Oc (Δ ++ Γ') (τ ++ σ') H' → Q σ' H') → wpG X tg v σ H Q
theorem wipe_get (σ : L2.St) : ∀ (vs : List Nat) (i : Nat), (wipe σ vs)[i]? = if i ∈ vs ∧ i < σ.length then some none else σ[i]?
  | [], i => by simp [wipe]
  | v :: vs, i => by
    unfold wipe
    rw [List.getElem?_set, wipe_get σ vs i, wipe_length]
    by_cases h : v = i
    · subst h
      by_cases hl : v < σ.length
      · simp [hl]
      · simp [hl]
    · rw [if_neg h]
      simp only [List.mem_cons, Ne.symm h, false_or]
theorem wipe_set {σ : L2.St} {vs : List Nat} {n : Nat} {x : Option V} (h : n ∈ vs) : wipe (σ.set n x) vs = wipe σ vs := by
  apply List.ext_getElem?
  intro i
  rw [wipe_get, wipe_get, List.length_set]
  by_cases hi : i ∈ vs ∧ i < σ.length
  · rw [if_pos hi, if_pos hi]
  · rw [if_neg hi, if_neg hi]
    by_cases e : n = i
    · subst e
      have : ¬ n < σ.length := fun z => hi ⟨h, z⟩
      rw [List.getElem?_eq_none (by simp; omega), List.getElem?_eq_none (by omega)]
    · rw [List.getElem?_set_ne e]
theorem wipe_wipe {σ : L2.St} {vs : List Nat} : wipe (wipe σ vs) vs = wipe σ vs := by
  apply List.ext_getElem?
  intro i
  rw [wipe_get, wipe_get, wipe_length]
  by_cases hi : i ∈ vs ∧ i < σ.length
  · rw [if_pos hi, if_pos hi]
  · rw [if_neg hi, if_neg hi]
section
variable {K : PySem.W.Frag} {H0 H : Hp} {O Oc : List Addr} {G G' Δ Γ Γ' : List Sl} {S : List (Option V)} {s : Sl}
theorem Wf.unset {n : Nat} {τ : List (Option V)} {σ : L2.St} (hl : τ.length = Δ.length) (w : Wf K H0 Oc (Δ ++ Γ) (τ ++ σ) H) : Wf K H0 Oc (Δ ++ Γ.set n .no) (τ ++ σ.set n none) H := by
  obtain ⟨O, w⟩ := w
  have hlen : σ.length = Γ.length := by
    have := w.len
    simp only [List.length_append] at this
    omega
  have key : ∀ i s', (Δ ++ Γ.set n .no)[i]? = some s' → s' = Sl.no ∨ ((Δ ++ Γ)[i]? = some s' ∧ (τ ++ σ.set n none)[i]? = (τ ++ σ)[i]?) := fun i s' h => by
    by_cases hi : i < Δ.length
    · rw [List.getElem?_append_left hi] at h
      refine .inr ⟨by rw [List.getElem?_append_left hi]; exact h, ?_⟩
      rw [List.getElem?_append_left (by omega), List.getElem?_append_left (by omega)]
    · rw [List.getElem?_append_right (by omega)] at h
      by_cases e : n = i - Δ.length
      · rw [List.getElem?_set, if_pos e] at h
        split at h
        · exact .inl (Option.some.inj h).symm
        · cases h
      · rw [List.getElem?_set_ne e] at h
        refine .inr ⟨by rw [List.getElem?_append_right (by omega)]; exact h, ?_⟩
        rw [List.getElem?_append_right (by omega), List.getElem?_append_right (by omega), List.getElem?_set_ne (by omega)]
  refine ⟨O, w.sub, w.new, w.old, w.live, w.ex, by simp [hl, hlen], fun i s' x h1 h2 => ?_, fun i j p d d' h1 h2 h3 h4 => ?_⟩
  · rcases key i s' h1 with e | ⟨e1, e2⟩
    · rw [e]; trivial
    · exact w.ok i s' x e1 (e2 ▸ h2)
  · rcases key i _ h1 with e | ⟨e1, e2⟩
    · exact nomatch e
    · rcases key j _ h3 with f | ⟨f1, f2⟩
      · exact nomatch f
      · exact w.nd i j p d d' e1 (e2 ▸ h2) f1 (f2 ▸ h4)
theorem Wf.wiped {τ : List (Option V)} {σ : L2.St} (hl : τ.length = Δ.length) (w : Wf K H0 Oc (Δ ++ Γ) (τ ++ σ) H) : ∀ vs : List Nat, Wf K H0 Oc (Δ ++ wipeG Γ vs) (τ ++ wipe σ vs) H
  | [] => w
  | _ :: vs => (Wf.wiped hl w vs).unset hl
theorem WfO.toArg (w : WfO K H0 Oc O G S H) (hs : ∀ (i : Nat) (s : Sl), G[i]? = some s → s ≠ .no → ∃ v, S[i]? = some (some v)) : Wf K H O (G.map Sl.arg) S H := by
  refine ⟨O, fun a z => z, fun a z => .inl z, w.live, w.live, fun _ _ z => z, by rw [List.length_map]; exact w.len, fun i s x h1 h2 => ?_, fun i j p d d' h1 _ _ _ => (arg_not h1).elim⟩
  rw [List.getElem?_map] at h1
  cases q : G[i]? with
  | none => rw [q] at h1; cases h1
  | some s' =>
    rw [q] at h1
    cases h1
    by_cases hn : s' = .no
    · rw [hn]; trivial
    · obtain ⟨v, hv⟩ := hs i s' q hn
      rw [h2] at hv
      cases hv
      exact (w.ok i s' _ q h2).arg w.ex
theorem WfO.toArg' (w : WfO K H0 Oc O G S H) : Wf K H O (G.map Sl.arg) S H := w.toArg fun i s h hn => by
  have hi : i < S.length := by
    rw [w.len]
    exact (List.getElem?_eq_some_iff.mp h).1
  have ok := w.ok i s S[i] h (List.getElem?_eq_getElem hi)
  rw [List.getElem?_eq_getElem hi]
  cases s with
  | no => exact absurd rfl hn
  | va d => obtain ⟨v, e, _⟩ := ok; exact ⟨v, by rw [e]⟩
  | ow d => obtain ⟨p, _, e, _⟩ := ok; exact ⟨.ref p, by rw [e]⟩
  | br d => obtain ⟨v, e, _⟩ := ok; exact ⟨v, by rw [e]⟩
  | bw d => obtain ⟨v, e, _⟩ := ok; exact ⟨v, by rw [e]⟩
theorem stab_arg : stab (G.map Sl.arg) = true := by
  unfold stab
  rw [List.all_map, List.all_eq_true]
  intro s _
  cases s <;> rfl
end
/-- the block's context -/
abbrev blkX (X : Cx) (scope : Scope) (s : Shared) (H : Hp) (C : Addr) (cl : List (Str × Addr)) (fp : List Addr) : Cx := X.blk s H scope (compEnvC scope cl C X.env) fp
/-- the tests of a clause -/
def Ets (X : Cx) (H0 : Hp) (Oc : List Addr) (Γ : List Sl) : List Expr → Bool → Prop
  | [], b => b = true
  | [c], b => Et X H0 Oc Γ c b
  | _, _ => False
section
variable {X : Cx} {W : WX} {H0 : Hp} {Oc : List Addr} {Γ Γ1 Γ' : List Sl} {e a b c o tg iter elt : Expr} {ifs : List Expr} {ds : List D} {pos pos' : Pos} {scope : Scope} {own : List (Str × Nat)}
def wG (X : Cx) (scope : Scope) (tg : Expr) : TG := fun v σ H Q => ∀ s0 H00 C cl fp, wpG (blkX X scope s0 H00 C cl fp) tg v σ H Q
def wE (X : Cx) (scope : Scope) (e : Expr) : TE := fun σ H Q => ∀ s0 H00 C cl fp, wpE (blkX X scope s0 H00 C cl fp) e σ H Q
def wT (X : Cx) (scope : Scope) : List Expr → TT
  | [] => tYes
  | [c] => fun σ H Q => ∀ s0 H00 C cl fp, wpT (blkX X scope s0 H00 C cl fp) c σ H Q
  | _ => fun _ _ _ => False
theorem pts_wT : ∀ {ifs : List Expr} {s0 H00 C cl fp}, PTs (blkX X scope s0 H00 C cl fp) ifs (wT X scope ifs)
  | [], _, _, _, _, _ => pts_nil
  | [c], s0, H00, C, cl, fp => pts_one ⟨fun pins s σ H Q I h => h s0 H00 C cl fp pins s I⟩
  | _ :: _ :: _, _, _, _, _, _ => ⟨fun pins s σ H Q I h => h.elim⟩
theorem lc_run {α : Type} (xs : List α) (enc : α → D) (p : α → Bool) (g : α → D) (Γe : α → List Sl) {Δ : List Sl} {τ : List (Option V)} {σ : L2.St} {H : Hp} {Q : VK} {wi : TI} (hl : τ.length = Δ.length) (w : Wf X.K H0 Oc (Δ ++ Γ) (τ ++ σ) H)
    (hwi : ∀ (Δ : List Sl) (τ : List (Option V)) (σ : L2.St) (H : Hp) (R : It → Hp → Prop), τ.length = Δ.length → Wf X.K H0 Oc (Δ ++ Γ) (τ ++ σ) H →
      (∀ J Δh τh H', (∀ H0' Oc', ItOk X.K H0' Oc' J Δh τh (xs.map enc)) → Δh.map Sl.arg = Δh → Wf X.K H0 Oc (Δh ++ (Δ ++ Γ)) (τh ++ (τ ++ σ)) H' → R J H') → wi σ H R)
    (hn : xs.length ≤ 1000000)
    (ht : ∀ x ∈ xs, ∀ H0' Oc' s0 H00 C cl fp, Tgw (blkX X scope s0 H00 C cl fp) H0' Oc' (own.map (·.2)) tg (wipeG (Γ.map Sl.arg) (own.map (·.2))) (.va (enc x)) (Γe x))
    (hst : ∀ x ∈ xs, stab (Γe x) = true ∧ Sub (wipeG (Γe x) (own.map (·.2))) (wipeG (Γ.map Sl.arg) (own.map (·.2))))
    (hp : ∀ x ∈ xs, ∀ H0' Oc' s0 H00 C cl fp, Ets (blkX X scope s0 H00 C cl fp) H0' Oc' (Γe x) ifs (p x))
    (he : ∀ x ∈ xs, p x = true → ∀ H0' Oc' s0 H00 C cl fp, Ev (blkX X scope s0 H00 C cl fp) H0' Oc' (Γe x) elt (.va (g x)))
    (q : ∀ v H', Wf X.K H0 Oc (.ow (.lst ((xs.filter p).map g)) :: (Δ ++ Γ)) (some v :: (τ ++ σ)) H' → Q v H') : tLc wi (wG X scope tg) (wT X scope ifs) (wE X scope elt) (own.map (·.2)) σ H Q := by
  refine hwi Δ τ σ H _ hl w fun J Δh τh H1 ok harg w1 => fun Dl hD => ?_
  obtain ⟨O, w1⟩ := w1
  have ok := ok H1 O
  have w1o : WfO X.K H0 Oc O (Δ ++ Γ) (τ ++ σ) H1 := w1.drop ok.len
  have hla : τ.length = (Δ.map Sl.arg).length := by simp [hl]
  have wb0 := w1.toArg'
  rw [List.map_append, harg, List.map_append] at wb0
  have hl3 : (τh ++ τ).length = (Δh ++ Δ.map Sl.arg).length := by simp [hl, ok.len]
  let Γw := wipeG (Γ.map Sl.arg) (own.map (·.2))
  let A := Δh ++ Δ.map Sl.arg
  let B := τh ++ τ
  have wb : Wf X.K H1 O (A ++ Γw) (B ++ wipe σ (own.map (·.2))) H1 := by
    rw [app3, app3] at wb0
    exact wb0.wiped hl3 _
  let res : Nat → List D := fun i => ((xs.take i).filter p).map g
  have stA : stab A = true := by rw [stab_app, ok.st, stab_arg]; rfl
  refine ⟨fun i m H => m = xs.length - i ∧ i ≤ xs.length ∧ Wf X.K H1 O (.ow (.lst (res i)) :: (A ++ Γw)) (some (.ref Dl) :: (B ++ wipe σ (own.map (·.2)))) H, ⟨xs.length, by simp, Nat.zero_le _, ?_⟩, ?_⟩
  · obtain ⟨O', wb⟩ := wb
    exact ⟨_, wb.newLst hD Reps.nil⟩
  rintro i m H2 ⟨rfl, hi, w2⟩
  by_cases hlt : i < xs.length
  · have w2' : Wf X.K H1 O ([.ow (.lst (res i))] ++ (Δh ++ (Δ.map Sl.arg ++ Γw))) ([some (.ref Dl)] ++ (τh ++ (τ ++ wipe σ (own.map (·.2))))) H2 := by
      rw [app3 (a := Δh), app3 (a := τh)]
      exact w2
    obtain ⟨g1, g2⟩ := ok.go i [_] _ [_] _ H2 rfl (by simpa using hlt) w2'
    refine .inr ⟨g1, fun H' => Wf X.K H1 O (.ow (.lst (res (i + 1))) :: (A ++ Γw)) (some (.ref Dl) :: (B ++ wipe σ (own.map (·.2)))) H', fun H' q1 => ⟨xs.length - (i + 1), by omega, rfl, hlt, q1⟩, fun y H' yy => ?_⟩
    obtain ⟨d, hd, w3⟩ := g2 y H' yy
    have ex : xs[i]? = some xs[i] := List.getElem?_eq_getElem hlt
    generalize xs[i] = x at ex
    have hx : x ∈ xs := List.mem_of_getElem? ex
    rw [List.getElem?_map, ex] at hd
    have hd' := Option.some.inj hd
    subst hd'
    have hres : res (i + 1) = if p x = true then res i ++ [g x] else res i := by
      show ((xs.take (i + 1)).filter p).map g = if p x = true then ((xs.take i).filter p).map g ++ [g x] else ((xs.take i).filter p).map g
      rw [List.take_add_one, ex, List.filter_append]
      cases hp' : p x <;> simp [hp']
    have hlr : (res i).length ≤ 1000000 := by
      show (((xs.take i).filter p).map g).length ≤ _
      rw [List.length_map]
      have h1 := List.length_filter_le p (xs.take i)
      rw [List.length_take] at h1
      omega
    have w3' : Wf X.K H1 O (.va (enc x) :: ((.ow (.lst (res i)) :: A) ++ Γw)) (some y :: ((some (.ref Dl) :: B) ++ wipe σ (own.map (·.2)))) H' := by
      have e1 : [Sl.ow (.lst (res i))] ++ (Δh ++ (Δ.map Sl.arg ++ Γw)) = (.ow (.lst (res i)) :: A) ++ Γw := by
        show _ :: (Δh ++ (Δ.map Sl.arg ++ Γw)) = _ :: ((Δh ++ Δ.map Sl.arg) ++ Γw)
        rw [app3]
      have e2 : [some (V.ref Dl)] ++ (τh ++ (τ ++ wipe σ (own.map (·.2)))) = (some (.ref Dl) :: B) ++ wipe σ (own.map (·.2)) := by
        show _ :: (τh ++ (τ ++ wipe σ (own.map (·.2)))) = _ :: ((τh ++ τ) ++ wipe σ (own.map (·.2)))
        rw [app3]
      rw [e1, e2] at w3
      exact w3
    have hlA : (some (V.ref Dl) :: B).length = (Sl.ow (.lst (res i)) :: A).length := congrArg Nat.succ hl3
    obtain ⟨st1, st2⟩ := hst x hx
    -- the turn's end, once the slots are wiped
    have back : ∀ {r : List D} {σ2 : L2.St} {H4 : Hp}, wipe σ2 (own.map (·.2)) = wipe σ (own.map (·.2)) → Wf X.K H1 O ((.ow (.lst r) :: A) ++ Γe x) ((some (.ref Dl) :: B) ++ σ2) H4 → Wf X.K H1 O (.ow (.lst r) :: (A ++ Γw)) (some (.ref Dl) :: (B ++ wipe σ (own.map (·.2)))) H4 := fun {r σ2 H4} hw w => by
      have z := (w.wiped (show (some (V.ref Dl) :: B).length = (Sl.ow (.lst r) :: A).length from congrArg Nat.succ hl3) (own.map (·.2))).sub (Sub.app st2)
      rw [hw] at z
      exact z
    refine fun s0 H00 C cl fp => ht x hx H1 O s0 H00 C cl fp (.ow (.lst (res i)) :: A) (some (.ref Dl) :: B) _ H' y _ hlA w3' fun σ2 H3 hw2 w4 => ?_
    rw [wipe_wipe] at hw2
    refine ⟨hw2, ?_⟩
    have cont : ∀ (b : Bool) (H4 : Hp), b = p x → Wf X.K H1 O ((.ow (.lst (res i)) :: A) ++ Γe x) ((some (.ref Dl) :: B) ++ σ2) H4 →
        (if b = true then wE X scope elt σ2 H4 fun y H5 => ∃ acc, H5 Dl = some (.lst acc) ∧ acc.length < sizeLine ∧ Wf X.K H1 O (.ow (.lst (res (i + 1))) :: (A ++ Γw)) (some (.ref Dl) :: (B ++ wipe σ (own.map (·.2)))) (upd H5 Dl (.lst (acc ++ [y])))
          else Wf X.K H1 O (.ow (.lst (res (i + 1))) :: (A ++ Γw)) (some (.ref Dl) :: (B ++ wipe σ (own.map (·.2)))) H4) := fun b H4 hb w5 => by
      subst hb
      cases hpx : p x with
      | false =>
        rw [hres, hpx]
        exact back hw2 w5
      | true =>
        refine fun s0 H00 C cl fp => he x hx hpx H1 O s0 H00 C cl fp (.ow (.lst (res i)) :: A) (some (.ref Dl) :: B) σ2 H4 _ hlA w5 fun y' H5 ⟨O5, w6⟩ => ?_
        obtain ⟨pp, oo, e1, k2, k3, k4, k5⟩ := w6.pop.head
        cases e1
        obtain ⟨v', e2, rv⟩ := w6.head
        cases e2
        cases oo <;> first | exact k5.elim | skip
        rename_i us
        have k5' : Reps X.K (cut H5 O5) (res i) us := k5
        refine ⟨us, k4, ?_, ?_⟩
        · rw [k5'.len, sizeLine_eq]
          omega
        · rw [hres, hpx]
          refine back hw2 ⟨O5, ?_⟩
          have z := w6.pop.mut (i := 0) (d' := .lst (res i ++ [g x])) (o' := .lst (us ++ [y'])) (by
            show stab ((Sl.ow (.lst (res i)) :: A) ++ Γe x) = true
            rw [stab_app, st1, stab_cons, stA]
            rfl) rfl rfl (k5'.app (Reps.one rv))
          exact z
    have tst := hp x hx
    match ifs, tst with
    | [], tst => exact cont true H3 (tst H1 O s0 H00 C cl fp).symm w4
    | [c], tst => exact fun s0 H00 C cl fp => tst H1 O s0 H00 C cl fp (.ow (.lst (res i)) :: A) (some (.ref Dl) :: B) σ2 H3 _ hlA w4 fun H4 w5 => cont _ H4 rfl w5
    | _ :: _ :: _, tst => exact (tst H1 O s0 H00 C cl fp).elim
  · have e : i = xs.length := by omega
    subst e
    have w2' : Wf X.K H1 O ([.ow (.lst (res xs.length))] ++ (Δh ++ (Δ.map Sl.arg ++ Γw))) ([some (.ref Dl)] ++ (τh ++ (τ ++ wipe σ (own.map (·.2))))) H2 := by
      rw [app3 (a := Δh), app3 (a := τh)]
      exact w2
    refine .inl ⟨ok.stop _ [_] _ [_] _ H2 rfl (by simp) w2', ?_⟩
    have w3 := w2.only
    have e : res xs.length = (xs.filter p).map g := by
      show ((xs.take xs.length).filter p).map g = _
      rw [List.take_length]
    rw [e] at w3
    exact q _ H2 (w1o.after w3 rfl)
end
end Y

namespace Y
open PySem L2
section
variable {X : Cx} {W : WX} {H0 : Hp} {Oc : List Addr} {Γ Γ1 Γ' : List Sl} {e a b c o tg iter elt ie : Expr} {es ifs : List Expr} {rest body els : List Stmt} {s s0 s1 s2 : Sl} {ss : List Sl} {d d1 d2 : D} {ds ds1 ds2 : List D} {i j : Int} {pos pos' p2 p apos : Pos} {x y m : Str} {out o1 : Out} {n : Nat} {q : Bool} {scope : Scope} {own : List (Str × Nat)}
/-! ### comprehensions -/
theorem ev_lc {α : Type} (xs : List α) (enc : α → D) (pr : α → Bool) (g : α → D) (Γe : α → List Sl) (hc : X.calm = true) (hN : X.N.Nodup) (ok : BlkOk X.N X.env.scope scope own) (hi : Ei X H0 Oc Γ tg iter (xs.map enc)) (hn : xs.length ≤ 1000000)
    (ht : ∀ x ∈ xs, ∀ H0' Oc' s0 H00 C cl fp, Tgw (blkX X scope s0 H00 C cl fp) H0' Oc' (own.map (·.2)) tg (wipeG (Γ.map Sl.arg) (own.map (·.2))) (.va (enc x)) (Γe x))
    (hst : ∀ x ∈ xs, stab (Γe x) = true ∧ Sub (wipeG (Γe x) (own.map (·.2))) (wipeG (Γ.map Sl.arg) (own.map (·.2))))
    (hp : ∀ x ∈ xs, ∀ H0' Oc' s0 H00 C cl fp, Ets (blkX X scope s0 H00 C cl fp) H0' Oc' (Γe x) ifs (pr x))
    (he : ∀ x ∈ xs, pr x = true → ∀ H0' Oc' s0 H00 C cl fp, Ev (blkX X scope s0 H00 C cl fp) H0' Oc' (Γe x) elt (.va (g x)))
    (hs : ∀ x, foldedSetIterable iter X.env x = pure x := by intro _; rfl) : Ev X H0 Oc Γ (.ListComp elt [⟨tg, iter, ifs, 0⟩] scope pos) (.ow (.lst ((xs.filter pr).map g))) := fun Δ τ σ H Q hl w k => by
  obtain ⟨wi, hpi, hwi⟩ := hi
  refine wpE.of (pe_lc (g := wG X scope tg) (tt := wT X scope ifs) (te := wE X scope elt) hc hN hpi ok (fun s0 H00 C cl fp => ⟨fun pins s σ H v u Q I r h => h s0 H00 C cl fp pins s u I r⟩) (fun s0 H00 C cl fp => pts_wT) (fun s0 H00 C cl fp => ⟨fun pins s σ H Q I h => h s0 H00 C cl fp pins s I⟩) hs) ?_
  exact lc_run xs enc pr g Γe hl w hwi hn ht hst hp he k
theorem sds_setLc {α : Type} (n : Nat) (xs : List α) (enc : α → D) (pr : α → Bool) (g : α → D) (Γe : α → List Sl) (hc : X.calm = true) (hN : X.N.Nodup) (ok : BlkOk X.N X.env.scope scope own) (hi : Ei X H0 Oc Γ tg iter (xs.map enc)) (hn : xs.length ≤ 1000000)
    (ht : ∀ x ∈ xs, ∀ H0' Oc' s0 H00 C cl fp, Tgw (blkX X scope s0 H00 C cl fp) H0' Oc' (own.map (·.2)) tg (wipeG (Γ.map Sl.arg) (own.map (·.2))) (.va (enc x)) (Γe x))
    (hst : ∀ x ∈ xs, stab (Γe x) = true ∧ Sub (wipeG (Γe x) (own.map (·.2))) (wipeG (Γ.map Sl.arg) (own.map (·.2))))
    (hp : ∀ x ∈ xs, ∀ H0' Oc' s0 H00 C cl fp, Ets (blkX X scope s0 H00 C cl fp) H0' Oc' (Γe x) ifs (pr x))
    (he : ∀ x ∈ xs, pr x = true → ∀ H0' Oc' s0 H00 C cl fp, Ev (blkX X scope s0 H00 C cl fp) H0' Oc' (Γe x) elt (.va (g x)))
    (hr : Sds X W H0 Oc (Γ.set n (.ow (.lst ((xs.filter pr).map g)))) rest out)
    (hy : X.N[n]? = some y) (hyl : X.env.scope.names.lookup y = some .local) (hk : X.env.scope.kind = .function := by rfl) (hln : (p.line == pos.line) = true := by rfl)
    (han : (scope.names.any fun (m, k) => m == y && (k == .local || k == .cell)) = false := by decide +kernel)
    (hs : ∀ x, foldedSetIterable iter X.env x = pure x := by intro _; rfl) : Sds X W H0 Oc Γ (.Assign [.Name y p] (.ListComp elt [⟨tg, iter, ifs, 0⟩] scope pos) pos' :: rest) out := fun Δ τ σ H D hl st w k => by
  obtain ⟨wi, hpi, hwi⟩ := hi
  refine wpSs.of (pss_cons (ps_setLc (g := wG X scope tg) (tt := wT X scope ifs) (te := wE X scope elt) hc hN hy hyl (sw_true hk hyl hln han) hpi ok (fun s0 H00 C cl fp => ⟨fun pins s σ H v u Q I r h => h s0 H00 C cl fp pins s u I r⟩) (fun s0 H00 C cl fp => pts_wT) (fun s0 H00 C cl fp => ⟨fun pins s σ H Q I h => h s0 H00 C cl fp pins s I⟩) hs) pss_wp) ?_
  exact lc_run xs enc pr g Γe hl w hwi hn ht hst hp he fun v H1 ⟨O, w1⟩ => hr Δ τ _ H1 D hl st ⟨O, w1.set hl⟩ k
theorem tgw_name {vs : List Nat} (n : Nat) (hN : X.N.Nodup) (hi : X.N[n]? = some x) (hx : Loc X.env.scope x) (hf : X.fn x = true ∨ X.env.scope.names.lookup x = some .local) (hv : n ∈ vs) : Tgw X H0 Oc vs (.Name x pos') Γ s (Γ.set n s) :=
  fun Δ τ σ H v Q hl ⟨O, w⟩ k => wpG.of (pg_name hN hi hx hf) (k _ H (wipe_set hv) ⟨O, w.set hl⟩)
/-! ### pairs as targets -/
theorem tg_tup2 {z : Str} {p3 : Pos} {kk : Nat} (n1 n2 : Nat) (hc : X.calm = true) (hN : X.N.Nodup) (h1 : X.N[n1]? = some x) (h2 : X.N[n2]? = some z) (hx : Loc X.env.scope x) (hz : Loc X.env.scope z) (hf : X.fn x = true ∨ X.env.scope.names.lookup x = some .local) (hg : X.fn z = true ∨ X.env.scope.names.lookup z = some .local) :
    Tg X H0 Oc (.Tuple [.Name x p, .Name z p2] kk p3) Γ (.va (.tup [d1, d2])) ((Γ.set n1 (.va d1)).set n2 (.va d2)) := fun Δ τ σ H v Q hl st ⟨O, w⟩ k => by
  refine wpG.of (pg_tup (n := 2) hc (pgs_cons (pg_name hN h1 hx hf) (pgs_cons (pg_name hN h2 hz hg) pgs_nil))) ?_
  obtain ⟨u, e, a, vs, rfl, ha, hr⟩ := w.head
  cases e
  obtain ⟨v1, us, rfl, r1, v2, us2, rfl, r2, e3⟩ := hr
  cases e3
  refine ⟨a, _, rfl, .of (cut_ex _ _ ha), rfl, v1, [v2], rfl, v2, [], rfl, rfl, k _ H ⟨O, ?_⟩⟩
  have w1 := (w.pop.push (s := .va d1) (y := some v1) ⟨v1, rfl, r1⟩ fun _ z => nomatch z).set (n := n1) hl
  exact (w1.push (s := .va d2) (y := some v2) ⟨v2, rfl, r2⟩ fun _ z => nomatch z).set (n := n2) hl
theorem tgw_tup2 {z : Str} {p3 : Pos} {kk : Nat} {vs : List Nat} (n1 n2 : Nat) (hc : X.calm = true) (hN : X.N.Nodup) (h1 : X.N[n1]? = some x) (h2 : X.N[n2]? = some z) (hx : Loc X.env.scope x) (hz : Loc X.env.scope z) (hf : X.fn x = true ∨ X.env.scope.names.lookup x = some .local) (hg : X.fn z = true ∨ X.env.scope.names.lookup z = some .local) (hv1 : n1 ∈ vs) (hv2 : n2 ∈ vs) :
    Tgw X H0 Oc vs (.Tuple [.Name x p, .Name z p2] kk p3) Γ (.va (.tup [d1, d2])) ((Γ.set n1 (.va d1)).set n2 (.va d2)) := fun Δ τ σ H v Q hl ⟨O, w⟩ k => by
  refine wpG.of (pg_tup (n := 2) hc (pgs_cons (pg_name hN h1 hx hf) (pgs_cons (pg_name hN h2 hz hg) pgs_nil))) ?_
  obtain ⟨u, e, a, vs', rfl, ha, hr⟩ := w.head
  cases e
  obtain ⟨v1, us, rfl, r1, v2, us2, rfl, r2, e3⟩ := hr
  cases e3
  refine ⟨a, _, rfl, .of (cut_ex _ _ ha), rfl, v1, [v2], rfl, v2, [], rfl, rfl, k _ H ((wipe_set hv2).trans (wipe_set hv1)) ⟨O, ?_⟩⟩
  have w1 := (w.pop.push (s := .va d1) (y := some v1) ⟨v1, rfl, r1⟩ fun _ z => nomatch z).set (n := n1) hl
  exact (w1.push (s := .va d2) (y := some v2) ⟨v2, rfl, r2⟩ fun _ z => nomatch z).set (n := n2) hl
/-! ### xs[i] = e -/
theorem sds_ix {ii : Int} {jj : Nat} {tp : Pos} (n : Nat) (h : Γ[n]? = some (.ow (.lst ds))) (hst : stab Γ = true) (he : Ev X H0 Oc Γ e (.va d)) (hi : Ev X H0 Oc Γ ie (.va (.int ii))) (hj : ixN ds.length ii = some jj) (hr : Sds X W H0 Oc (Γ.set n (.ow (.lst (ds.set jj d)))) rest out)
    (hN : X.N[n]? = some x) (hv : Vis X.env.scope x) (hd : (x == ("__debug__" : Str)) = false) (hcd : (x == ("__classdict__" : Str)) = false)
    (hss : swapsWithSole [.Subscript (.Name x p) ie tp] e pos.line X.env = pure false := by rfl) (hw : swappedStores [.Subscript (.Name x p) ie tp] e X.env = pure none := by rfl)
    (h1 : (assignEach [.Subscript (.Name x p) ie tp] X.env).map (·.2) = [assign (.Subscript (.Name x p) ie tp) X.env] := by rfl)
    (has : ∀ v, assign (.Subscript (.Name x p) ie tp) X.env v = (do
      let ov ← holding [v] (eval (.Name x p) X.env)
      let iv ← holding [v, ov] (eval ie X.env)
      standAt tp
      holding [v, ov, iv] (setItem ov iv v)
      release [v, ov, iv] []) := by intro _; rfl) :
    Sds X W H0 Oc Γ (.Assign [.Subscript (.Name x p) ie tp] e pos :: rest) out := fun Δ τ σ H D hl st w k => by
  refine wpSs.of (pss_cons (ps_asg pe_wp (pg_sub (pe_var hN hv hd hcd) pe_wp set_list has) hss hw h1) pss_wp) ?_
  refine he Δ τ σ H _ hl w fun v H1 ⟨O1, w1⟩ => ?_
  obtain ⟨y, hy, pp, oo, rfl, g2, g3, g4, g5⟩ := slot_of hl w1.pop h
  refine ⟨.ref pp, hy, ?_⟩
  refine hi (.va d :: Δ) (some v :: τ) σ H1 _ (by simp [hl]) ⟨O1, w1⟩ fun iv H2 ⟨O2, w2⟩ => ?_
  obtain ⟨iv', e1, r1⟩ := w2.head
  cases e1
  obtain rfl : iv = .int ii := r1
  obtain ⟨y', hy', q, u, e1, k2, k3, k4, k5⟩ := slot_of hl w2.pop.pop h
  rw [hy] at hy'
  cases hy'
  cases e1
  obtain ⟨v', e2, rv⟩ := w2.pop.head
  cases e2
  cases u <;> first | exact k5.elim | skip
  rename_i vs
  have k5' : Reps X.K (cut H2 O2) ds vs := k5
  refine ⟨pp, vs, ii, jj, rfl, rfl, k4, by rw [k5'.len]; exact hj, ?_⟩
  exact hr Δ τ σ _ D hl st ⟨O2, w2.pop.pop.mutN hl st hst h hy (o' := .lst (vs.set jj v)) (d' := .lst (ds.set jj d)) (Reps.set jj k5' rv)⟩ k
/-! ### the truth of a list or tuple -/
theorem et_seq (ha : Ev X H0 Oc Γ a (.bw d)) (hd : seqD d = some ds) (he : ∀ whole, isTrue a X.env whole = (do let v ← whole; standAt a.pos; holding [v] (truthy v)) := by intro _; rfl) : Et X H0 Oc Γ a (!ds.isEmpty) := fun Δ τ σ H Q hl w k =>
  wpT.of (pt_truth pe_wp he) (ha Δ τ σ H _ hl w fun v H' w' => by
    obtain ⟨⟨O, h⟩, w2⟩ := w'.popB
    obtain ⟨pp, vs, rfl, hq, r⟩ := h.seq hd
    have e : (!vs.isEmpty) = !ds.isEmpty := by
      have := r.len
      cases vs <;> cases ds <;> simp at this ⊢
    refine ⟨_, ?_, k H' w2⟩
    rcases hq with hq | hq
    · exact .inl ⟨vs, hq, e.symm⟩
    · exact .inr (.inl ⟨vs, hq, e.symm⟩))
/-! ### isinstance -/
def tyD : D → Option Value
  | .non => some (.type "NoneType")
  | .bl _ => some (.type "bool")
  | .int _ => some (.type "int")
  | .str _ => some (.type "str")
  | .tup _ => some (.type "tuple")
  | .lst _ => some (.type "list")
  | .dT _ _ => some (.type "dict")
  | .dK _ _ => some (.type "dict")
  | .obj C _ _ => some (.ref C)
  | .slf _ C _ _ => some (.ref C)
  | _ => none
structure IsC (K : PySem.W.Frag) (C : Addr) : Prop where
  cl : Cls K C
  ha : PySem.W.findIn K (.ref C) "__class__" = some (some (.builtin "object.__class__"))
  hn : PySem.W.specialIn K (.builtin "object.__class__") "__get__" = some (some (.builtin "getset_descriptor.__get__"))
  tk : PySem.W.takesIn K (.builtin "object.__class__") = some true
  hm : PySem.W.mroIn K C (.type "object") = some true
theorem RepB.ty {K : PySem.W.Frag} {Ht H H' : Hp} {v : V} {t : Value} (ex : Ex Ht H') (h : RepB K Ht H d v) (ht : tyD d = some t) (hc : ∀ C, t = .ref C → IsC K C) : TyX K H' v t := by
  cases d <;> first
    | (cases ht; done)
    | (have e := Option.some.inj ht; subst e; rw [show v = _ from h]; exact .base (by constructor))
    | skip
  · obtain ⟨pp, vs, rfl, h2, h3⟩ := h; cases ht; exact .base (.tup (ex _ _ h2))
  · obtain ⟨pp, vs, rfl, h2, h3⟩ := h; cases ht; exact .base (.lst (ex _ _ h2))
  · obtain ⟨pp, dx, fs, rfl, h2, h3⟩ := h
    cases ht
    have z := hc _ rfl
    exact .base (.ins (ex _ _ h2) z.cl z.ha z.hn z.tk z.hm)
  · obtain ⟨pp, vs, rfl, h2, h3⟩ := h; cases ht; exact .base (.dT (ex _ _ h2))
  · obtain ⟨pp, vs, rfl, h2, h3⟩ := h; cases ht; exact .base (.dK (ex _ _ h2))
  · obtain ⟨dx, fs, rfl, h2, h3⟩ := h
    cases ht
    have z := hc _ rfl
    exact .base (.ins (ex _ _ h2) z.cl z.ha z.hn z.tk z.hm)
/-- names of built-in classes and of one's own -/
theorem ev_ty {T : String} (hg : Gl X x) (hm : X.mg x = none) (hv : bootBuiltins x = some (.type T)) (hn : x ≠ "__name__" := by decide) (hdb : (x == ("__debug__" : Str)) = false := by decide) : Ev X H0 Oc Γ (.Name x pos) (.va (.opq (.ty T))) :=
  ev_flat (pe_bltn (v := .ty T) hg hm hv rfl hn hdb) (fun _ _ _ q => q) rfl fun _ => rfl
theorem ev_cls {C : Addr} (hg : Gl X x) (hm : X.mg x = some (.ref C)) (hdb : (x == ("__debug__" : Str)) = false := by decide) : Ev X H0 Oc Γ (.Name x pos) (.va (.opq (.ref C))) :=
  ev_flat (pe_glob (v := .ref C) hg hm rfl hdb) (fun _ _ _ q => q) rfl fun _ => rfl
theorem ev_isi {cv : V} {u t : Value} (ha : Ev X H0 Oc Γ a (.bw d)) (hb : Ev X H0 Oc Γ b (.va (.opq cv))) (k : ClsV cv u) (ht : tyD d = some t) (hk : PySem.W.kitOne X.K t u = some q) (hm : X.mg "isinstance" = none) (hc : ∀ C, t = .ref C → IsC X.K C) (hg : Gl X "isinstance")
    (he : starEach [a, b] X.env = (false, eval a X.env) :: starEach [b] X.env) (he2 : starEach [b] X.env = (false, eval b X.env) :: starEach [] X.env) (hpl : (backTo pos (starEach [b] X.env)).any (·.1) = false) : Ev X H0 Oc Γ (.Call (.Name "isinstance" p) [a, b] [] pos) (.va (.bl q)) := fun Δ τ σ H Q hl w kk =>
  wpE.of (pe_callB call_isi hg hm (by decide +kernel) (pa_cons pe_wp (pa_cons pe_wp pa_nil he2) he) (by decide) (by decide) he hpl) (ha Δ τ σ H _ hl w fun v H1 w1 =>
    hb (.bw d :: Δ) (some v :: τ) σ H1 _ (by simp [hl]) w1 fun z H2 ⟨O, w2⟩ => by
      obtain ⟨z', e1, r1⟩ := w2.head
      cases e1
      obtain rfl : z = cv := r1
      obtain ⟨v', e2, r2⟩ := w2.pop.head
      cases e2
      exact ⟨v, z, t, u, q, rfl, k, r2.ty (fun _ _ z => z) ht hc, hk, kk _ H2 ⟨O, w2.pop.pop.flat (d := .bl q) (H' := H2) rfl rfl⟩⟩)
/-! ### an error that an except suite holds -/
structure XcE (K : PySem.W.Frag) (C : Addr) : Prop where
  xf : XfC K C
  cl : (PySem.W.clsIn K C).isSome = true
  ha : PySem.W.findIn K (.ref C) "__class__" = some (some (.builtin "object.__class__"))
  hn : PySem.W.specialIn K (.builtin "object.__class__") "__get__" = some (some (.builtin "getset_descriptor.__get__"))
  tk : PySem.W.takesIn K (.builtin "object.__class__") = some true
  hm : PySem.W.mroIn K C (.type "object") = some true
def rIsiE (a C dd : Addr) (K : PySem.W.Frag) : List V → Hp → VK → Prop := fun xs H Q => ∃ c u b fs, xs = [.ref a, c] ∧ H dd = some (.xd fs) ∧ ClsV c u ∧ PySem.W.kitOne K (.ref C) u = some b ∧ Q (.bl b) H
theorem call_isiE {a C dd : Addr} {oe : Obj} {pn : List (Addr × Obj)} (T : XcE X.K C) (hz : L2N.Zn (.ref C) (some dd) oe) (hf : ∃ vs, oe.data = .fields vs) : CallR (X.suite a ((a, oe) :: pn)) (.builtin "isinstance") (rIsiE a C dd X.K) := by
  intro pins s σ H xs us Q I r h
  obtain ⟨c, u, b, fs, rfl, ea, k, e, q⟩ := h
  obtain ⟨u1, u2, rfl, r1, r2⟩ := vals2 r
  have e2 := k.eq r2
  subst e2
  obtain rfl : u1 = Value.ref a := r1
  obtain ⟨hA, _⟩ := I.pin (a, oe) (List.mem_append_left _ List.mem_cons_self)
  obtain ⟨vs, hd⟩ := hf
  have hx : ObjOk X.prog X.w H s.heap dd (.xd fs) := I.hok dd _ ea
  obtain ⟨mA, hns, hr⟩ := hx
  obtain ⟨od, ho, hl⟩ := lookIn_ns hns
  have J : PySem.W.InstAt s.heap a oe C (some od) := ⟨hA, hz.1, by unfold PySem.W.notCls; rw [hd] <;> rfl, by rw [hz.2.1]; exact ho⟩
  exact PySem.W.kia_one (PySem.W.kitx_exc T.cl T.xf.ga T.xf.gg T.xf.exC T.ha T.hn T.tk T.hm) I.kIn J e (fun z => nomatch z) fun tk => ⟨.bl b, H, I.tok tk, rfl, q⟩
theorem ev_isiE {ad C dd : Addr} {oe : Obj} {pn : List (Addr × Obj)} {cv : V} {u : Value} {ns : List Str} (T : XcE X.K C) (hz : L2N.Zn (.ref C) (some dd) oe) (hf : ∃ vs, oe.data = .fields vs) (ha : Ev (X.suite ad ((ad, oe) :: pn)) H0 Oc Γ a (.va (.er ad C dd ns ds))) (hb : Ev (X.suite ad ((ad, oe) :: pn)) H0 Oc Γ b (.va (.opq cv)))
    (k : ClsV cv u) (hk : PySem.W.kitOne X.K (.ref C) u = some q) (hm : X.mg "isinstance" = none) (hg : Gl X "isinstance")
    (he : starEach [a, b] X.env = (false, eval a X.env) :: starEach [b] X.env) (he2 : starEach [b] X.env = (false, eval b X.env) :: starEach [] X.env) (hpl : (backTo pos (starEach [b] X.env)).any (·.1) = false) : Ev (X.suite ad ((ad, oe) :: pn)) H0 Oc Γ (.Call (.Name "isinstance" p) [a, b] [] pos) (.va (.bl q)) := fun Δ τ σ H Q hl w kk =>
  wpE.of (pe_callB (X := X.suite ad ((ad, oe) :: pn)) (call_isiE T hz hf) hg hm (by decide +kernel) (pa_cons pe_wp (pa_cons pe_wp pa_nil he2) he) (by decide) (by decide) he hpl) (ha Δ τ σ H _ hl w fun v H1 w1 =>
    hb (.va (.er ad C dd ns ds) :: Δ) (some v :: τ) σ H1 _ (by simp [hl]) w1 fun z H2 ⟨O, w2⟩ => by
      obtain ⟨z', e1, r1⟩ := w2.head
      cases e1
      obtain rfl : z = cv := r1
      obtain ⟨v', e2, fs, rfl, h2, h3⟩ := w2.pop.head
      cases e2
      exact ⟨z, u, q, fs, rfl, cut_ex _ _ h2, k, hk, kk _ H2 ⟨O, w2.pop.pop.flat (d := .bl q) (H' := H2) rfl rfl⟩⟩)
/-- e.f -/
theorem ev_xf {ad C dd : Addr} {oe : Obj} {pn : List (Addr × Obj)} {f : Str} {ns : List Str} (T : XfC X.K C) (hno : PySem.W.findIn X.K (.ref C) f = some none) (hz : L2N.Zn (.ref C) (some dd) oe) (hf : ∃ vs, oe.data = .fields vs) (ha : Ev (X.suite ad ((ad, oe) :: pn)) H0 Oc Γ a (.va (.er ad C dd ns ds)))
    (hi : (ns.zip ds).lookup f = some d) (hab : attributeBase a f X.env (eval a X.env) = eval a X.env := by rfl) : Ev (X.suite ad ((ad, oe) :: pn)) H0 Oc Γ (.Attribute a f pos) (.va d) := fun Δ τ σ H Q hl w kk =>
  wpE.of (pe_xf T hno hz.zc hf pe_wp hab) (ha Δ τ σ H _ hl w fun v H1 ⟨O, w1⟩ => by
    obtain ⟨v', e2, fs, rfl, h2, h3, h4⟩ := w1.head
    cases e2
    subst h3
    obtain ⟨z, hz, rz⟩ := h4.look hi
    exact ⟨rfl, rfl, dd, fs, z, rfl, cut_ex _ _ h2, hz, kk z H1 ⟨O, w1.pop.push ⟨z, rfl, rz⟩ fun _ z => nomatch z⟩⟩)
end
end Y

namespace Y
open PySem L2
/-! ### calls that may let an exception out: C(..), a op b -/
section
variable {X : Cx} {CX : CXT} {k : Nat} {f C : Addr} {fd : FuncData} {ps : List Str} {sp : Sp} {E : L2.St → XK} {x m : Str} {p pos apos : Pos} {a b e o : Expr} {es : List Expr} {ta tb : TE} {t : TA} {op : Operator}
theorem run_makeS {pins : List (Addr × Obj)} {σ : L2.St} {H : Hp} {s : Shared} {Q : VK} {us : List Value} {vs : List V} (M : Mk X.K C f) (Fi : FnOk X.prog X.w X.K X.mg X.base CX k f fd ps sp) (hr : Room (k + 1) X.A) (hb : L2.Binds X.K fd ps [])
    (hx : PassesAt CX X σ (E σ)) (I : Inv X pins σ H s) (r : Vals vs us)
    (h : ∀ y dx, H y = none → H dx = none → dx ≠ y → sp (.ref y :: vs) (upd (upd H dx (.own y)) y (.ins C dx [])) (fun v H2 => v = .non ∧ Q (.ref y) H2) (E σ)) :
    wpAny (model X.prog X.w) X.A (call (.ref C) us) (EP X pins σ Q) X.xe s := by
  -- the two new places
  obtain ⟨n, hn⟩ : ∃ n, s.heap.objs.size = n := ⟨_, rfl⟩
  have pr := h (n + 1) n (I.hok.fresh (by omega)) (I.hok.fresh (by omega)) (Nat.ne_of_lt (Nat.lt_succ_self n))
  have J := Inv.made (C := C) I
  rw [hn] at J
  have rv : Vals (V.ref (n + 1) :: vs) (Value.ref (n + 1) :: us) := .cons rfl r
  have len : (Value.ref (n + 1) :: us).length = ps.length := rv.length.symm.trans (Fi.len _ _ _ _ pr)
  have bb := hb _ _ J.kIn (by rw [List.append_nil]; exact len)
  rw [List.append_nil] at bb
  subst hn
  apply wpAny_call
  refine make_map (f := f) I.kIn M.makes M.init (beq_iff_eq.mp M.fn) ?_
  refine codeAny_mono (Fi.run _ X.stack _ _ _ _ _ _ _ (hr.make C us []) (J.env0.make C us []) bb rv pr) fun r s' done => ?_
  match r, done with
  | .error er, done => exact hx pins _ _ er s' J done
  | .ok .next, done => exact done.elim
  | .ok .brk, done => exact done.elim
  | .ok .cont, done => exact done.elim
  | .ok (.ret u), done =>
    obtain ⟨v, H', I3, rv3, isN, q3⟩ := J.after done
    subst isN
    exact ⟨rv3, ⟨V.ref (s.heap.objs.size + 1), H', I3, rfl, q3⟩⟩
def tMakeS (C : Addr) (sp : Sp) (E : L2.St → XK) (t : TA) : TE := fun σ H Q => t σ H fun vs H1 => ∀ y dx, H1 y = none → H1 dx = none → dx ≠ y → sp (.ref y :: vs) (upd (upd H1 dx (.own y)) y (.ins C dx [])) (fun v H2 => v = .non ∧ Q (.ref y) H2) (E σ)
theorem pe_makeS (M : Mk X.K C f) (Fi : FnOk X.prog X.w X.K X.mg X.base CX k f fd ps sp) (hr : Room (k + 1) X.A) (hg : Gl X x) (hm : X.mg x = some (.ref C)) (hb : L2.Binds X.K fd ps []) (hx : ∀ σ, PassesAt CX X σ (E σ)) (ha : PA X (e :: es) t)
    (hdb : (x == ("__debug__" : Str)) = false) (he : starEach (e :: es) X.env = (false, eval e X.env) :: starEach es X.env) (hpl : (backTo pos (starEach es X.env)).any (·.1) = false) : PE X (.Call (.Name x p) (e :: es) [] pos) (tMakeS C sp E t) :=
  ⟨fun pins s σ H Q I h => wpAny_Call_Name_kw (ld_glob I hg hm
    (PySem.W.callWith_K (h₀ := X.base) I.ok.mod.kin M.kp (thn (ha.run pos pins s σ H _ I h) fun us s1 ⟨vs, H1, I1, r, q⟩ => ⟨I1.kIn, run_makeS M Fi hr hb (hx σ) I1 r q⟩) he hpl) hdb)⟩
def tOwnS (C : Addr) (sp : Sp) (E : L2.St → XK) (ta tb : TE) : TE := fun σ H Q => ta σ H fun x H1 => tb σ H1 fun y H2 => Own.rOwn C sp (E σ) x y H2 Q
theorem pe_ownS (hc : PySem.W.selfFirst X.K C = true) (hs : PySem.W.findIn X.K (.ref C) (PySem.dunder op.info.2) = some (some (.ref f))) (hf : PySem.W.isFn X.K (.ref f) = true)
    (Fi : FnOk X.prog X.w X.K X.mg X.base CX k f fd ps sp) (hr : Room k X.A) (hb : L2.Binds X.K fd ps []) (hx : ∀ σ, PassesAt CX X σ (E σ)) (ha : PE X a ta) (hb2 : PE X b tb) : PE X (.BinOp a op b pos) (tOwnS C sp E ta tb) := by
  refine ⟨fun pins s σ H Q I h => wpAny_BinOp (binT ha hb2 I h fun v u s2 x y H2 I2 rx ry q => ?_)⟩
  obtain ⟨aa, dx, fs, bb, dy, gs, rfl, rfl, ea, eb, q⟩ := q
  cases rx
  cases ry
  obtain ⟨_, Oa, _⟩ := ins_get I2.hok ea
  obtain ⟨_, Ob, _⟩ := ins_get I2.hok eb
  obtain ⟨_, Ja, _⟩ := Oa.look
  obtain ⟨_, Jb, _⟩ := Ob.look
  obtain ⟨_, fr⟩ := I2.fr
  refine PySem.W.binop_K fr I2.ok.mod.kin Ja Jb.type hc hs hf ?_
  exact thn (run_fnS (us := [.ref aa, .ref bb]) (vs := [.ref aa, .ref bb]) Fi hr hb (hx σ) I2 (.cons rfl (.cons rfl .nil)) q) fun r s' ⟨v', H', I', r', q'⟩ => Own.back_of r' ⟨v', H', I', r', q'⟩
end
section
variable {X : Cx} {W : WX} {H0 : Hp} {Oc : List Addr} {Γ Γ1 Γ' : List Sl} {e a b c o tg iter elt ie : Expr} {es ifs : List Expr} {rest body els : List Stmt} {s s0 s1 s2 : Sl} {ss : List Sl} {d d1 d2 : D} {ds ds1 ds2 : List D} {i j : Int} {pos pos' p2 p apos : Pos} {x y m f g : Str} {out o1 : Out} {n : Nat} {q : Bool} {k : Nat} {ps : List Str} {P : Pm} {C C1 : Addr} {ns : List Str}
/-- C(..), an __init__ that raises -/
theorem exx_make {Γe : Option (List Sl)} (tk : L2N.Takes X W) (F : ClG X.prog X.w X.K X.mg X.base x C k ps P) (hr : Room (k + 1) X.A) (ha : Ea X H0 Oc Γ (e :: es) ss) (hp : P (ss.map Sl.arg) (.exc C1 ns ds Γe)) (hg : Gl X x := by rfl) (hdb : (x == ("__debug__" : Str)) = false := by decide)
    (he : starEach (e :: es) X.env = (false, eval e X.env) :: starEach es X.env := by rfl) (hpl : (backTo pos (starEach es X.env)).any (·.1) = false := by rfl) : Exx X W H0 Oc Γ (.Call (.Name x p) (e :: es) [] pos) C1 ns ds := fun Δ τ σ H Q hl w q => by
  obtain ⟨fi, fd, Fi, hM, hm, hb⟩ := F.ex
  refine wpE.of (pe_makeS (E := WE W) hM Fi hr hg hm hb (fun σ => L2N.passAt tk σ) pa_wp hdb he hpl) ?_
  refine ha Δ τ σ H _ hl w fun vs O H1 w1 ok => ?_
  intro yy dx ny ndx ne
  exact ⟨H1, O, _, _, _, _, hp, rfl, WfO.making (w1.callee ok) ny ndx ne, fun d H' w2 => q d H' (w1.after w2 rfl)⟩
/-- a op b, own classes -/
theorem ev_own {op : Operator} {ns1 : List Str} (hc : PySem.W.selfFirst X.K C = true) (F : MtG X.prog X.w X.K X.mg X.base C (PySem.dunder op.info.2) k ps P) (hr : Room k X.A) (ha : Ev X H0 Oc Γ a s1) (hd1 : s1.dat = some (.obj C ns ds1)) (hb : Ev X H0 Oc Γ b s2) (hd2 : s2.dat = some (.obj C ns1 ds2))
    (hp : P [s1.arg, s2.arg] (.ret s)) (hs : s.res = true := by rfl) : Ev X H0 Oc Γ (.BinOp a op b pos) s := fun Δ τ σ H Q hl w q => by
  obtain ⟨fi, fd, Fi, hM, hbd⟩ := F.ex
  refine wpE.of (pe_op (Own.op_own (E := E0) hc hM.at_ hM.fn Fi hr hbd passLN) pe_wp pe_wp) ?_
  refine ha Δ τ σ H _ hl w fun v H1 w1 => ?_
  refine hb (s1 :: Δ) (some v :: τ) σ H1 _ (by simp [hl]) w1 fun u H2 ⟨O, w2⟩ => ?_
  obtain ⟨r2, dx2, fs2, rfl, g2, g3, g4⟩ := (w2.head.b w2.ex hd2 : RepB _ _ _ (.obj C ns1 ds2) u)
  obtain ⟨r1, dx1, fs1, rfl, k2, k3, k4⟩ := (w2.pop.head.b w2.ex hd1 : RepB _ _ _ (.obj C ns ds1) v)
  refine ⟨r1, dx1, fs1, r2, dx2, fs2, rfl, rfl, k2, g2, O, [s1.arg, s2.arg], _, hp, ?_, fun v H' w3 => q v H' (w2.pop.pop.after w3 hs)⟩
  exact w2.callee (ss := [s1, s2]) (vs := [.ref r1, .ref r2]) ⟨_, _, rfl, w2.pop.head, _, _, rfl, w2.head, rfl⟩
theorem exx_own {op : Operator} {ns1 : List Str} {Γe : Option (List Sl)} {xs : List Str} (tk : L2N.Takes X W) (hc : PySem.W.selfFirst X.K C = true) (F : MtG X.prog X.w X.K X.mg X.base C (PySem.dunder op.info.2) k ps P) (hr : Room k X.A) (ha : Ev X H0 Oc Γ a s1) (hd1 : s1.dat = some (.obj C ns ds1)) (hb : Ev X H0 Oc Γ b s2) (hd2 : s2.dat = some (.obj C ns1 ds2))
    (hp : P [s1.arg, s2.arg] (.exc C1 xs ds Γe)) : Exx X W H0 Oc Γ (.BinOp a op b pos) C1 xs ds := fun Δ τ σ H Q hl w q => by
  obtain ⟨fi, fd, Fi, hM, hbd⟩ := F.ex
  refine wpE.of (pe_ownS (E := WE W) hc hM.at_ hM.fn Fi hr hbd (fun σ => L2N.passAt tk σ) pe_wp pe_wp) ?_
  refine ha Δ τ σ H _ hl w fun v H1 w1 => ?_
  refine hb (s1 :: Δ) (some v :: τ) σ H1 _ (by simp [hl]) w1 fun u H2 ⟨O, w2⟩ => ?_
  obtain ⟨r2, dx2, fs2, rfl, g2, g3, g4⟩ := (w2.head.b w2.ex hd2 : RepB _ _ _ (.obj C ns1 ds2) u)
  obtain ⟨r1, dx1, fs1, rfl, k2, k3, k4⟩ := (w2.pop.head.b w2.ex hd1 : RepB _ _ _ (.obj C ns ds1) v)
  refine ⟨r1, dx1, fs1, r2, dx2, fs2, rfl, rfl, k2, g2, O, [s1.arg, s2.arg], _, hp, ?_, fun d H' w3 => q d H' (w2.pop.pop.after w3 rfl)⟩
  exact w2.callee (ss := [s1, s2]) (vs := [.ref r1, .ref r2]) ⟨_, _, rfl, w2.pop.head, _, _, rfl, w2.head, rfl⟩
/-! ### statements whose expression raises -/
theorem sds_setX {pos2 : Pos} (hN : X.N.Nodup) (hi : X.N[n]? = some x) (hx : Loc X.env.scope x) (he : Exx X W H0 Oc Γ e C ns ds) (hs : swapsWith e (some (.Name x pos2)) pos.line X.env = pure false) (hf : X.fn x = true ∨ X.env.scope.names.lookup x = some .local) :
    Sds X W H0 Oc Γ (.Assign [.Name x pos2] e pos :: rest) (.exc C ns ds (some Γ)) := fun Δ τ σ H D hl st w k => wpSs.of (pss_cons (ps_set hN hi hx pe_wp hs hf) pss_wp) (he Δ τ σ H _ hl w fun d H1 w1 => k d σ H1 w1)
theorem sds_exprX (he : Exx X W H0 Oc Γ e C ns ds) (hs : swapsWith e none pos.line X.env = pure false := by rfl) : Sds X W H0 Oc Γ (.Expr e pos :: rest) (.exc C ns ds (some Γ)) := fun Δ τ σ H D hl st w k =>
  wpSs.of (pss_cons (ps_expr pe_wp hs) pss_wp) (he Δ τ σ H _ hl w fun d H1 w1 => k d σ H1 w1)
theorem sds_retX (he : Exx X W H0 Oc Γ e C ns ds) : Sds X W H0 Oc Γ (.Return (some e) pos :: rest) (.exc C ns ds (some Γ)) := fun Δ τ σ H D hl st w k =>
  wpSs.of (pss_cons (ps_ret pe_wp) pss_wp) (he Δ τ σ H _ hl w fun d H1 w1 => k d σ H1 w1)
theorem Sds.low {st : List Stmt} {Γe : Option (List Sl)} (h : Sds X W H0 Oc Γ st (.exc C ns ds Γe)) : Sds X W H0 Oc Γ st (.exc C ns ds none) := fun Δ τ σ H D hl hst w k => h Δ τ σ H D hl hst w (by
  intro d σ' H' xw
  cases Γe with
  | none => exact k d σ' H' xw
  | some Γ2 => exact k d σ' H' (show Wf _ _ _ _ _ _ from Wf.only (show Wf X.K H0 Oc (.va (.xd ns ds) :: (Δ ++ Γ2)) (some (.ref d) :: (τ ++ σ')) H' from xw)))
/-! ### raise -/
theorem WfO.newXd {K : PySem.W.Frag} {O : List Addr} {G : List Sl} {S : List (Option V)} {H : Hp} {pp : Addr} {fs : List (Str × V)} (w : WfO K H0 Oc O G S H) (hp : H pp = none) (hn : fs.map (·.1) = ns) (h : Reps K (cut H O) ds (fs.map (·.2))) : WfO K H0 Oc O (.va (.xd ns ds) :: G) (some (.ref pp) :: S) (upd H pp (.xd fs)) := by
  have np : pp ∉ O := fun z => w.live pp z hp
  refine (w.grow (Ex.new hp)).push ⟨.ref pp, rfl, pp, fs, rfl, ?_, hn, Reps.mono (cut_mono (Ex.new hp)) h⟩ fun _ z => nomatch z
  rw [cut_out np]
  exact upd_same
theorem sds_raise1 {pos2 : Pos} (hc : X.calm = true) (tk : L2N.Takes X W) (T : Sup.Ex1 X.prog X.K X.mg x f C) (hr : Room 2 X.A) (hg : Gl X x) (he : Ev X H0 Oc Γ e (.va d))
    (hdb : (x == ("__debug__" : Str)) = false := by decide) (hst : starEach [e] X.env = (false, eval e X.env) :: starEach [] X.env := by rfl) (hpl : (backTo pos (starEach [] X.env)).any (·.1) = false := by rfl) :
    Sds X W H0 Oc Γ (.Raise (some (.Call (.Name x p) [e] [] pos)) none pos2 :: rest) (.exc C [f] [d] (some Γ)) := fun Δ τ σ H D hl st w k => by
  refine wpSs.of (pss_cons (L2N.ps_raise hc tk (Sup.pmk_1 T hr hg (pa_cons pe_wp pa_nil hst) hdb hst hpl)) pss_wp) ?_
  refine he Δ τ σ H _ hl w fun v H1 ⟨O, w1⟩ => ?_
  obtain ⟨v', e1, rv⟩ := w1.head
  cases e1
  exact ⟨v, rfl, fun dd nd => k dd σ _ ⟨O, w1.pop.newXd (ns := [f]) (ds := [d]) nd rfl ⟨v, [], rfl, rv, rfl⟩⟩⟩
theorem sds_raise2 {pos2 : Pos} (hc : X.calm = true) (tk : L2N.Takes X W) (T : Sup.Ex2 X.prog X.K X.mg x f g C) (hr : Room 2 X.A) (hg : Gl X x) (he : Ev X H0 Oc Γ a (.va d1)) (he2 : Ev X H0 Oc Γ b (.va d2))
    (hdb : (x == ("__debug__" : Str)) = false := by decide) (hst : starEach [a, b] X.env = (false, eval a X.env) :: starEach [b] X.env := by rfl) (hst2 : starEach [b] X.env = (false, eval b X.env) :: starEach [] X.env := by rfl) (hpl : (backTo pos (starEach [b] X.env)).any (·.1) = false := by rfl) :
    Sds X W H0 Oc Γ (.Raise (some (.Call (.Name x p) [a, b] [] pos)) none pos2 :: rest) (.exc C [g, f] [d2, d1] (some Γ)) := fun Δ τ σ H D hl st w k => by
  refine wpSs.of (pss_cons (L2N.ps_raise hc tk (Sup.pmk_2 T hr hg (pa_cons pe_wp (pa_cons pe_wp pa_nil hst2) hst) hdb hst hpl)) pss_wp) ?_
  refine he Δ τ σ H _ hl w fun v H1 w1 => ?_
  refine he2 (.va d1 :: Δ) (some v :: τ) σ H1 _ (by simp [hl]) w1 fun u H2 ⟨O, w2⟩ => ?_
  obtain ⟨u', e1, ru⟩ := w2.head
  cases e1
  obtain ⟨v', e1, rv⟩ := w2.pop.head
  cases e1
  exact ⟨v, u, rfl, fun dd nd => k dd σ _ ⟨O, w2.pop.pop.newXd (ns := [g, f]) (ds := [d2, d1]) nd rfl ⟨u, [v], rfl, ru, v, [], rfl, rv, rfl⟩⟩⟩
/-! ### try: body except x as n: suite -/
def wNo : WX := fun _ _ _ _ => False
def SuiteOk (X : Cx) (W : WX) (H0 : Hp) (Oc : List Addr) (n : Nat) (rest : List Stmt) (out : Out) : Out → Prop
  | .nx Γ2 => Sds X W H0 Oc (Γ2.set n .no) rest out
  | .ret s => out = .ret s
  | .brk Γ2 => out = .brk (Γ2.set n .no)
  | .cnt Γ2 => out = .cnt (Γ2.set n .no)
  | .exc _ _ _ _ => False
def TryOk (X : Cx) (W : WX) (H0 : Hp) (Oc : List Addr) (n : Nat) (c : Value) (suite rest : List Stmt) (out : Out) : Out → Prop
  | .nx Γ1 => Sds X W H0 Oc Γ1 rest out
  | .ret s => out = .ret s
  | .brk Γ1 => out = .brk Γ1
  | .cnt Γ1 => out = .cnt Γ1
  | .exc C ns ds (some Γe) => (PySem.W.exmOne X.K (.ref C) c = some true ∧ ∀ (a : Addr) (oe : Obj) (d : Addr) (pn : List (Addr × Obj)), L2N.Zn (.ref C) (some d) oe → (∃ vs, oe.data = .fields vs) →
      ∃ os, Sds (X.suite a ((a, oe) :: pn)) wNo H0 Oc (Γe.set n (.va (.er a C d ns ds))) suite os ∧ SuiteOk X W H0 Oc n rest out os) ∨ (PySem.W.exmOne X.K (.ref C) c = some false ∧ out = .exc C ns ds (some Γe))
  | .exc _ _ _ none => False
theorem sds_try {cv : Value} {b0 : Stmt} {suite : List Stmt} {np : Pos} {ob : Out} (hs : X.stack = X.env :: X.outer) (hf : X.env.frame = some X.env.locals) (hN : X.N.Nodup) (hi : X.N[n]? = some y) (hln : X.env.kindOf y = some .local) (hc : Names X x cv) (tk : L2N.Takes X W)
    (hb : ∀ (W' : WX) (pn : List (Addr × Obj)) (xe : Value → Shared → Prop), L2N.Takes (X.tr pn xe) W' → PassesOwn (model X.prog X.w) X.A X.env xe → Sds (X.tr pn xe) W' H0 Oc Γ body ob) (h : TryOk X W H0 Oc n cv (b0 :: suite) rest out ob) :
    Sds X W H0 Oc Γ (.Try body [.ExceptHandler (some (.Name x np)) (some y) (b0 :: suite) pos'] [] [] pos :: rest) out := fun Δ τ σ H D hl st w k => by
  refine wpSs.of (pss_cons (L2N.ps_try_as (tb := fun W' D σ H => ∀ (pn : List (Addr × Obj)) (xe : Value → Shared → Prop), L2N.Takes (X.tr pn xe) W' → PassesOwn (model X.prog X.w) X.A X.env xe → wpSs (X.tr pn xe) body D σ H)
    (ts := fun a cls d D σ H => ∀ (oe : Obj) (pn : List (Addr × Obj)), L2N.Zn cls d oe → (∃ vs, oe.data = .fields vs) → wpSs (X.suite a ((a, oe) :: pn)) (b0 :: suite) D σ H) hs hf hN hi hln hc tk
    (fun W' pn xe t po => ⟨fun pins s σ H D I h => h pn xe t po pins s I⟩) (fun a oe cls d pn z f => ⟨fun pins s σ H D I h => h oe pn z f pins s I⟩)) pss_wp) ?_
  intro pn xe t po
  refine hb _ pn xe t po Δ τ σ H _ hl st w ?_
  match ob, h with
  | .nx Γ1, h => exact fun σ' H' w' => h Δ τ σ' H' D hl st w' k
  | .ret s, h =>
    subst h
    exact k
  | .brk Γ1, h =>
    subst h
    exact k
  | .cnt Γ1, h =>
    subst h
    exact k
  | .exc C ns ds (some Γe), h =>
    intro d σ' H' xw
    have xw' : Wf X.K H0 Oc (.va (.xd ns ds) :: (Δ ++ Γe)) (some (.ref d) :: (τ ++ σ')) H' := xw
    rcases h with ⟨hm, h⟩ | ⟨hm, h⟩
    · refine ⟨true, hm, fun _ aa na => ?_, (fun z => nomatch z)⟩
      intro oe pn2 z f
      obtain ⟨os, h1, h2⟩ := h aa oe d pn2 z f
      obtain ⟨O, w1⟩ := xw'
      obtain ⟨v, e1, d', fs, e2, g2, g3, g4⟩ := w1.head
      cases e1
      cases e2
      have w2 := (w1.pop.push (s := .va (.er aa C d ns ds)) (y := some (.ref aa)) ⟨.ref aa, rfl, fs, rfl, g2, g3, g4⟩ fun _ z => nomatch z).set (n := n) hl
      refine h1 Δ τ _ H' _ hl st ⟨O, w2⟩ ?_
      match os, h2 with
      | .nx Γ2, h2 => exact fun σ4 H4 w4 => h2 Δ τ _ H4 D hl st (w4.unset hl) k
      | .ret s, h2 =>
        subst h2
        exact k
      | .brk Γ2, h2 =>
        subst h2
        exact fun σ4 H4 w4 => k _ H4 (w4.unset hl)
      | .cnt Γ2, h2 =>
        subst h2
        exact fun σ4 H4 w4 => k _ H4 (w4.unset hl)
    · refine ⟨false, hm, (fun z => nomatch z), fun _ => ?_⟩
      subst h
      exact k d σ' H' xw
/-! ### self.f = e -/
def D.own : D → Option (Addr × List Str × List D)
  | .obj C ns ds => some (C, ns, ds)
  | .slf _ C ns ds => some (C, ns, ds)
  | _ => none
def D.put : D → List Str → List D → D
  | .obj C _ _, ns, ds => .obj C ns ds
  | .slf q C _ _, ns, ds => .slf q C ns ds
  | d, _, _ => d
theorem RepH.own {K : PySem.W.Frag} {H : Hp} {a : Addr} {o : HO} (h : RepH K H d a o) (hd : d.own = some (C, ns, ds)) : ∃ dx fs, o = .ins C dx fs ∧ fs.map (·.1) = ns ∧ Reps K H ds (fs.map (·.2)) ∧ ∀ dx' fs', Reps K H ds1 (fs'.map (·.2)) → RepH K H (d.put (fs'.map (·.1)) ds1) a (.ins C dx' fs') := by
  cases d <;> first
    | (cases hd; done)
    | skip
  · cases hd
    cases o <;> first | exact h.elim | skip
    obtain ⟨rfl, h1, h2⟩ := h
    exact ⟨_, _, rfl, h1, h2, fun dx' fs' h3 => ⟨rfl, rfl, h3⟩⟩
  · cases hd
    cases o <;> first | exact h.elim | skip
    obtain ⟨⟨rfl, rfl⟩, h1, h2⟩ := h
    exact ⟨_, _, rfl, h1, h2, fun dx' fs' h3 => ⟨⟨rfl, rfl⟩, rfl, h3⟩⟩
theorem putF_new {v : V} : ∀ {fs : List (Str × V)}, f ∉ fs.map (·.1) → putF f v fs = fs ++ [(f, v)]
  | [], _ => rfl
  | (g, u) :: r, h => by
    unfold putF
    rw [if_neg fun z => h (by rw [← z]; exact List.mem_cons_self), putF_new fun z => h (List.mem_cons_of_mem _ z)]
    rfl
/-- a new field -/
theorem sds_fld {pp : Pos} (n : Nat) (h : Γ[n]? = some (.ow d)) (ho : d.own = some (C, ns, ds)) (hst : stab Γ = true) (cl : Cls X.K C) (na : NoAttr X.K C f) (hf : f ∉ ns) (hlen : ns.length < 1000) (he : Ev X H0 Oc Γ e (.va d1)) (hr : Sds X W H0 Oc (Γ.set n (.ow (d.put (ns ++ [f]) (ds ++ [d1])))) rest out)
    (hN : X.N[n]? = some x) (hv : Vis X.env.scope x) (hd : (x == ("__debug__" : Str)) = false) (hcd : (x == ("__classdict__" : Str)) = false)
    (hs : swapsWith e (some (.Attribute (.Name x p) f pp)) pos.line X.env = pure false := by rfl) : Sds X W H0 Oc Γ (.Assign [.Attribute (.Name x p) f pp] e pos :: rest) out := fun Δ τ σ H D hl st w k => by
  refine wpSs.of (pss_cons (ps_fld (pe_var hN hv hd hcd) pe_wp hs) pss_wp) ?_
  refine he Δ τ σ H _ hl w fun v H1 ⟨O, w1⟩ => ?_
  obtain ⟨yy, hy, pa, oo, rfl, g2, g3, g4, g5⟩ := slot_of hl w1.pop h
  obtain ⟨v', e1, rv⟩ := w1.head
  cases e1
  obtain ⟨dx, fs, rfl, q1, q2, q3⟩ := RepH.own (ds1 := ds ++ [d1]) g5 ho
  refine ⟨.ref pa, hy, pa, C, dx, fs, rfl, g4, cl, na, ?_, ?_⟩
  · have : fs.length = ns.length := by rw [← q1, List.length_map]
    omega
  · subst q1
    have q4 := q3 dx (fs ++ [(f, v)]) (by rw [List.map_append]; exact q2.app (Reps.one rv))
    rw [List.map_append] at q4
    rw [putF_new hf]
    exact hr Δ τ σ _ D hl st ⟨O, w1.pop.mutN hl st hst h hy q4⟩ k
/-! ### iteration over an own class -/
theorem ei_own {ad : Addr} (T : Own.IterAt X.K X.mg C ad f) (hr : Room 2 X.A) (he : Ev X H0 Oc Γ iter (.bw (.obj C ns ds1))) (hi : (ns.zip ds1).lookup f = some (.lst ds)) : Ei X H0 Oc Γ tg iter ds := ⟨_, Own.pi_own T hr pe_wp, fun Δ τ σ H R hl w k => he Δ τ σ H _ hl w fun v H1 ⟨O, w1⟩ => by
  obtain ⟨v', e1, r, dx, fs, rfl, h2, h3, h4⟩ := w1.head
  cases e1
  subst h3
  obtain ⟨z, hz, rz⟩ := h4.look hi
  obtain ⟨l, vs, rfl, g1, g2⟩ := id rz
  exact ⟨r, dx, fs, l, rfl, h2, hz, ⟨vs, .of (cut_ex _ _ g1)⟩, k _ [.va (.lst ds)] [some (.ref l)] H1 (fun _ _ => it_lst rfl) rfl ⟨O, w1.pop.push ⟨.ref l, rfl, rz⟩ fun _ z => nomatch z⟩⟩⟩
end
end Y

namespace Y
open PySem PySem.Spec PyProof.Rows L2
abbrev wx (E : XK) : WX := fun cls d _ H => E cls d H
/-- how a body's end is the call's -/
def Fin : Out → Out → Prop
  | .nx _, o => o = .ret (.va .non)
  | .ret s, o => o = .ret s
  | .exc C ns ds _, o => ∃ Γe, o = .exc C ns ds Γe
  | _, _ => False
def FinI (a C : Addr) : Out → Out → Prop
  | .nx Γ, o => ∃ ns ds, Γ[0]? = some (.ow (.slf a C ns ds)) ∧ o = .ret (.ow (.obj C ns ds))
  | .exc C ns ds _, o => ∃ Γe, o = .exc C ns ds Γe
  | _, _ => False
section
variable {K : PySem.W.Frag} {H0 H : Hp} {O Oc : List Addr} {G Γ : List Sl} {S : List (Option V)}
theorem WfO.pad (n : Nat) (w : WfO K H0 Oc O G S H) : WfO K H0 Oc O (G ++ List.replicate n .no) (S ++ List.replicate n none) H := by
  have no : ∀ i s, (G ++ List.replicate n Sl.no)[i]? = some s → G[i]? = some s ∧ i < G.length ∨ s = .no := fun i s h => by
    by_cases hi : i < G.length
    · rw [List.getElem?_append_left hi] at h
      exact .inl ⟨h, hi⟩
    · rw [List.getElem?_append_right (by omega), List.getElem?_replicate] at h
      split at h
      · exact .inr (Option.some.inj h).symm
      · cases h
  refine ⟨w.sub, w.new, w.old, w.live, w.ex, by simp [w.len], fun i s x h1 h2 => ?_, fun i j p d d' h1 h2 h3 h4 => ?_⟩
  · rcases no i s h1 with ⟨e, hi⟩ | e
    · rw [List.getElem?_append_left (by rw [w.len]; exact hi)] at h2
      exact w.ok i s x e h2
    · subst e
      trivial
  · rcases no i _ h1 with ⟨e, hi⟩ | e
    · rcases no j _ h3 with ⟨f, hj⟩ | f
      · rw [List.getElem?_append_left (by rw [w.len]; exact hi)] at h2
        rw [List.getElem?_append_left (by rw [w.len]; exact hj)] at h4
        exact w.nd i j p d d' e h2 f h4
      · cases f
    · cases e
/-- the object in the making, its address told -/
theorem WfO.slf {C : Addr} {ns : List Str} {ds : List D} {a : Addr} (w : WfO K H0 Oc O (.ow (.obj C ns ds) :: G) (some (.ref a) :: S) H) : WfO K H0 Oc O (.ow (.slf a C ns ds) :: G) (some (.ref a) :: S) H := by
  refine ⟨w.sub, w.new, w.old, w.live, w.ex, by simpa using w.len, fun i s x h1 h2 => ?_, fun i j p d d' h1 h2 h3 h4 => ?_⟩
  · cases i with
    | zero =>
      cases h1
      cases h2
      obtain ⟨p, o, e, h2, h3, h4, h5⟩ := w.head
      cases e
      refine ⟨a, o, rfl, h2, h3, h4, ?_⟩
      cases o <;> first | exact h5.elim | exact ⟨⟨h5.1, rfl⟩, h5.2⟩
    | succ i => exact w.ok (i + 1) s x h1 h2
  · have key : ∀ (k : Nat) (dd : D), (Sl.ow (.slf a C ns ds) :: G)[k]? = some (Sl.ow dd) → ∃ dd', (Sl.ow (.obj C ns ds) :: G)[k]? = some (Sl.ow dd') := fun k dd h => by
      cases k with
      | zero => exact ⟨_, rfl⟩
      | succ k => exact ⟨dd, h⟩
    obtain ⟨_, e⟩ := key i d h1
    obtain ⟨_, f⟩ := key j d' h3
    exact w.nd i j p _ _ e h2 f h4
theorem WfO.at0 {C : Addr} {ns : List Str} {ds : List D} {a : Addr} (w : WfO K H0 Oc O G S H) (h : G[0]? = some (.ow (.slf a C ns ds))) : Wf K H0 Oc [.ow (.obj C ns ds)] [some (.ref a)] H := by
  match G, S, h, w with
  | [], _, h, _ => cases h
  | _ :: G, [], h, w => exact absurd w.len (by simp)
  | s :: G, y :: S, h, w =>
    cases h
    obtain ⟨p, o, rfl, h2, h3, h4, h5⟩ := w.head
    obtain ⟨O', w'⟩ := (Wf.only ⟨O, w⟩ : Wf K H0 Oc [.ow (.slf a C ns ds)] [some (.ref p)] H)
    obtain ⟨p', o', e, k2, k3, k4, k5⟩ := w'.head
    cases e
    cases o' <;> first | exact k5.elim | skip
    obtain ⟨⟨rfl, rfl⟩, k6⟩ := k5
    refine ⟨O', w'.sub, w'.new, w'.old, w'.live, w'.ex, rfl, fun i s x h1 h2 => ?_, fun i j p d d' h1 h2 h3 h4 => ?_⟩
    · cases i with
      | zero =>
        cases h1
        cases h2
        exact ⟨_, _, rfl, k2, k3, k4, rfl, k6⟩
      | succ i => cases h1
    · cases i with
      | zero => cases j with
        | zero => rfl
        | succ j => cases h3
      | succ i => cases h1
end
section
variable {Pr : Program} {w : World} {K : PySem.W.Frag} {mg : Str → Option Value} {base : Heap}
/-- a def by its body's reading -/
theorem fn_sds {x qual : Str} {st : Stmt} {f : Addr} {fd : FuncData} {N ps : List Str} {k : Nat} {P : Pm} (F : Fun K x qual st f fd) (S : FnScope N ps (defScope st)) (hlen : ∀ Γ o, P Γ o → Γ.length = ps.length)
    (hb : ∀ (cdv : Value) (A : Around) (outer : List Env) (s : Shared) (H : Hp) (E : XK), Room k (A.deeper (envOfC qual (defScope st) s.heap.objs.size f cdv)) → ∀ (H0 : Hp) (Oc : List Addr) (Γ : List Sl) (o : Out), P Γ o →
      ∃ o', Sds (cxOf (L2N.CX Pr w) Pr w K mg base N qual (defScope st) f cdv A outer s H E) (wx E) H0 Oc (Γ ++ List.replicate (N.length - ps.length) .no) (defBody st) o' ∧ Fin o' o) :
    FnOk Pr w K mg base (L2N.CX Pr w) (k + 1) f fd ps (mkSp K P) := by
  obtain ⟨oc, od, kV, doc, pm, an, cdv, ct, osl, rfl, lk, hcd⟩ := F.ex
  have len : ∀ vs H Q E, mkSp K P vs H Q E → vs.length = ps.length := fun vs H Q E ⟨Oc, Γ, o, hp, ⟨O, w⟩, _⟩ => by
    rw [← hlen Γ o hp, ← w.len, List.length_map]
  refine fn_of lk hcd S len fun A outer s H vs Q E hr hsp => ?_
  have hl := len vs H Q E hsp
  obtain ⟨Oc, Γ, o, hp, ⟨O, w0⟩, sat⟩ := hsp
  obtain ⟨o', hS, fin⟩ := hb cdv A outer s H E hr H Oc Γ o hp
  refine ⟨wpSs _ _, pss_wp, hS [] [] (L2.start N vs) H _ rfl rfl ⟨O, ?_⟩ ?_⟩
  · unfold L2.start
    rw [← hl]
    exact w0.pad _
  · match o', fin with
    | .nx Γ', fin =>
      subst fin
      exact fun σ H' ⟨O', w'⟩ => sat .non H' (Wf.only ⟨O', w'.flat rfl (show Rep K H' .non .non from rfl)⟩)
    | .ret s', fin =>
      subst fin
      exact sat
    | .exc C ns ds Γe, fin =>
      obtain ⟨Γe', rfl⟩ := fin
      intro d σ H' xw
      refine sat d H' ?_
      cases Γe with
      | none => exact xw
      | some Γ2 => exact Wf.only (show Wf K H Oc (.va (.xd ns ds) :: ([] ++ Γ2)) (some (.ref d) :: ([] ++ σ)) H' from xw)
/-- an __init__ -/
theorem init_sds {x qual : Str} {st : Stmt} {f C : Addr} {fd : FuncData} {N ps : List Str} {k : Nat} {P : Pm} (F : Fun K x qual st f fd) (S : FnScope N ps (defScope st)) (hlen : ∀ Γ o, P Γ o → Γ.length + 1 = ps.length)
    (hb : ∀ (cdv : Value) (A : Around) (outer : List Env) (s : Shared) (H : Hp) (E : XK), Room k (A.deeper (envOfC qual (defScope st) s.heap.objs.size f cdv)) → ∀ (H0 : Hp) (Oc : List Addr) (Γ : List Sl) (o : Out) (a : Addr), P Γ o →
      ∃ o', Sds (cxOf (L2N.CX Pr w) Pr w K mg base N qual (defScope st) f cdv A outer s H E) (wx E) H0 Oc (.ow (.slf a C [] []) :: (Γ ++ List.replicate (N.length - ps.length) .no)) (defBody st) o' ∧ FinI a C o' o) :
    FnOk Pr w K mg base (L2N.CX Pr w) (k + 1) f fd ps (mkSpI K C P) := by
  obtain ⟨oc, od, kV, doc, pm, an, cdv, ct, osl, rfl, lk, hcd⟩ := F.ex
  have len : ∀ vs H Q E, mkSpI K C P vs H Q E → vs.length = ps.length := fun vs H Q E ⟨H0, Oc, Γ, o, self, us, hp, e, ⟨O, w⟩, _⟩ => by
    have := w.len
    rw [← hlen Γ o hp, ← List.length_map (f := some) (as := vs), this]
    rfl
  refine fn_of lk hcd S len fun A outer s H vs Q E hr hsp => ?_
  have hl := len vs H Q E hsp
  obtain ⟨H0, Oc, Γ, o, self, us, hp, rfl, ⟨O, w0⟩, sat⟩ := hsp
  obtain ⟨aa, oo, e, h2, h3, h4, h5⟩ := w0.head
  cases e
  obtain ⟨o', hS, fin⟩ := hb cdv A outer s H E hr H0 Oc Γ o aa hp
  refine ⟨wpSs _ _, pss_wp, hS [] [] (L2.start N _) H _ rfl rfl ⟨O, ?_⟩ ?_⟩
  · unfold L2.start
    rw [← hl]
    exact w0.slf.pad _
  · match o', fin with
    | .nx Γ', fin =>
      obtain ⟨ns, ds, e1, rfl⟩ := fin
      exact fun σ H' ⟨O', w'⟩ => sat H' (w'.at0 e1)
    | .exc C ns ds Γe, fin =>
      obtain ⟨Γe', rfl⟩ := fin
      intro d σ H' xw
      refine sat d H' ?_
      cases Γe with
      | none => exact xw
      | some Γ2 => exact Wf.only (show Wf K H0 Oc (.va (.xd ns ds) :: ([] ++ Γ2)) (some (.ref d) :: ([] ++ σ)) H' from xw)
end
end Y

namespace Y
open PySem L2
/-! ## the rules in short -/
section
variable {X : Cx} {W : WX} {H0 : Hp} {Oc : List Addr} {Γ Γ1 Γ' : List Sl} {e a b c o tg iter elt ie : Expr} {es ifs : List Expr} {rest body els : List Stmt} {s s0 s1 s2 : Sl} {ss : List Sl} {d d1 d2 : D} {ds ds1 ds2 : List D} {i j : Int} {pos pos' p2 p apos : Pos} {x y m f g : Str} {out o1 : Out} {q : Bool} {k : Nat} {C : Addr} {ns : List Str}
theorem vv (n : Nat) (h : Γ[n]? = some (.va d) := by rfl) (hN : X.N[n]? = some x := by rfl) (hv : Vis X.env.scope x := by first | exact .inl rfl | exact .inr (.inl rfl) | exact .inr (.inr rfl)) (hd : (x == ("__debug__" : Str)) = false := by rfl) (hcd : (x == ("__classdict__" : Str)) = false := by rfl) : Ev X H0 Oc Γ (.Name x pos) (.va d) :=
  ev_var n h (fun z => nomatch z) hN hv hd hcd
theorem vo (n : Nat) (h : Γ[n]? = some (.ow d) := by rfl) (hN : X.N[n]? = some x := by rfl) (hv : Vis X.env.scope x := by first | exact .inl rfl | exact .inr (.inl rfl) | exact .inr (.inr rfl)) (hd : (x == ("__debug__" : Str)) = false := by rfl) (hcd : (x == ("__classdict__" : Str)) = false := by rfl) : Ev X H0 Oc Γ (.Name x pos) (.bw d) :=
  ev_var n h (fun z => nomatch z) hN hv hd hcd
theorem vr (n : Nat) (h : Γ[n]? = some (.br d) := by rfl) (hN : X.N[n]? = some x := by rfl) (hv : Vis X.env.scope x := by first | exact .inl rfl | exact .inr (.inl rfl) | exact .inr (.inr rfl)) (hd : (x == ("__debug__" : Str)) = false := by rfl) (hcd : (x == ("__classdict__" : Str)) = false := by rfl) : Ev X H0 Oc Γ (.Name x pos) (.br d) :=
  ev_var n h (fun z => nomatch z) hN hv hd hcd
/-- any of them, read -/
theorem vb (n : Nat) (h : Γ[n]? = some s := by rfl) (hs : s.dat = some d := by rfl) (hN : X.N[n]? = some x := by rfl) (hv : Vis X.env.scope x := by first | exact .inl rfl | exact .inr (.inl rfl) | exact .inr (.inr rfl)) (hd : (x == ("__debug__" : Str)) = false := by rfl) (hcd : (x == ("__classdict__" : Str)) = false := by rfl) : Ev X H0 Oc Γ (.Name x pos) (.bw d) := by
  have := ev_var (H0 := H0) (Oc := Oc) (pos := pos) n h (fun z => by rw [z] at hs; exact nomatch hs) hN hv hd hcd
  cases s <;> first
    | (cases hs; done)
    | (cases hs; exact this.r)
    | (cases hs; exact this)
/-- self of an __init__ or method: an object -/
theorem slf_obj {K : PySem.W.Frag} {Ht H : Hp} {v : V} {aa : Addr} (h : RepB K Ht H (.slf aa C ns ds) v) : RepB K Ht H (.obj C ns ds) v := by
  obtain ⟨dx, fs, h1, h2, h3, h4⟩ := h
  exact ⟨aa, dx, fs, h1, h2, h3, h4⟩
theorem Ev.ob {aa : Addr} (h : Ev X H0 Oc Γ e (.bw (.slf aa C ns ds))) : Ev X H0 Oc Γ e (.bw (.obj C ns ds)) := fun Δ τ σ H Q hl W q => h Δ τ σ H Q hl W fun v H' ⟨O, W'⟩ => by
  obtain ⟨u, h1, h2⟩ := W'.head
  cases h1
  exact q v H' ⟨O, W'.pop.push ⟨v, rfl, slf_obj h2⟩ fun _ z => nomatch z⟩
theorem e_len {p : Pos} (hm : X.mg "len" = none) (ha : Ev X H0 Oc Γ a (.bw d)) (hd : seqD d = some ds := by rfl) (hg : Gl X "len" := by rfl) (he : starEach [a] X.env = (false, eval a X.env) :: starEach [] X.env := by rfl) (hpl : (backTo pos (starEach [] X.env)).any (·.1) = false := by rfl) :
    Ev X H0 Oc Γ (.Call (.Name "len" p) [a] [] pos) (.va (.int ds.length)) := ev_len ha hd hm hg he hpl
theorem e_list {p : Pos} (hm : X.mg "list" = none) (ha : Ev X H0 Oc Γ a (.bw d)) (hd : seqD d = some ds := by rfl) (hg : Gl X "list" := by rfl) (he : starEach [a] X.env = (false, eval a X.env) :: starEach [] X.env := by rfl) (hpl : (backTo pos (starEach [] X.env)).any (·.1) = false := by rfl) :
    Ev X H0 Oc Γ (.Call (.Name "list" p) [a] [] pos) (.ow (.lst ds)) := ev_list ha hd hm hg he hpl
theorem e_tupL {p : Pos} (hm : X.mg "tuple" = none) (ha : Ev X H0 Oc Γ a (.bw (.lst ds))) (hg : Gl X "tuple" := by rfl) (he : starEach [a] X.env = (false, eval a X.env) :: starEach [] X.env := by rfl) (hpl : (backTo pos (starEach [] X.env)).any (·.1) = false := by rfl) :
    Ev X H0 Oc Γ (.Call (.Name "tuple" p) [a] [] pos) (.va (.tup ds)) := ev_tupL ha hm hg he hpl
theorem e_tupT {p : Pos} (hm : X.mg "tuple" = none) (ha : Ev X H0 Oc Γ a (.va (.tup ds))) (hg : Gl X "tuple" := by rfl) (he : starEach [a] X.env = (false, eval a X.env) :: starEach [] X.env := by rfl) (hpl : (backTo pos (starEach [] X.env)).any (·.1) = false := by rfl) :
    Ev X H0 Oc Γ (.Call (.Name "tuple" p) [a] [] pos) (.va (.tup ds)) := ev_tupT ha hm hg he hpl
theorem e_int {p : Pos} (hm : X.mg "int" = none) (ha : Ev X H0 Oc Γ a (.va (.int i))) (hg : Gl X "int" := by rfl) (he : starEach [a] X.env = (false, eval a X.env) :: starEach [] X.env := by rfl) (hpl : (backTo pos (starEach [] X.env)).any (·.1) = false := by rfl) :
    Ev X H0 Oc Γ (.Call (.Name "int" p) [a] [] pos) (.va (.int i)) := ev_int1 ha hm hg he hpl
theorem e_isi {cv : V} {u t : Value} (hm : X.mg "isinstance" = none) (ha : Ev X H0 Oc Γ a (.bw d)) (hb : Ev X H0 Oc Γ b (.va (.opq cv))) (k : ClsV cv u) (ht : tyD d = some t) (hk : PySem.W.kitOne X.K t u = some q) (hc : ∀ C, t = .ref C → IsC X.K C := by exact fun _ z => nomatch z) (hg : Gl X "isinstance" := by rfl)
    (he : starEach [a, b] X.env = (false, eval a X.env) :: starEach [b] X.env := by rfl) (he2 : starEach [b] X.env = (false, eval b X.env) :: starEach [] X.env := by rfl) (hpl : (backTo pos (starEach [b] X.env)).any (·.1) = false := by rfl) : Ev X H0 Oc Γ (.Call (.Name "isinstance" p) [a, b] [] pos) (.va (.bl q)) := ev_isi ha hb k ht hk hm hc hg he he2 hpl
/-- isinstance(x, T), T a built-in type, x no instance of an own class -/
theorem kit_ty {K : PySem.W.Frag} {t c : String} {q : Bool} (h : PySem.W.kitOne [] (.type t) (.type c) = some q) : PySem.W.kitOne K (.type t) (.type c) = some q := by
  exact h
theorem e_isT {T t : String} (hm : X.mg "isinstance" = none) (hT : X.mg x = none) (ha : Ev X H0 Oc Γ a (.bw d)) (hv : bootBuiltins x = some (.type T)) (ht : tyD d = some (.type t)) (hk : PySem.W.kitOne [] (.type t) (.type T) = some q) (hgT : Gl X x := by rfl) (hg : Gl X "isinstance" := by rfl) (hn : x ≠ "__name__" := by decide) (hdb : (x == ("__debug__" : Str)) = false := by decide)
    (he : starEach [a, .Name x p2] X.env = (false, eval a X.env) :: starEach [.Name x p2] X.env := by rfl) (he2 : starEach [.Name x p2] X.env = (false, eval (.Name x p2) X.env) :: starEach [] X.env := by rfl) (hpl : (backTo pos (starEach [.Name x p2] X.env)).any (·.1) = false := by rfl) : Ev X H0 Oc Γ (.Call (.Name "isinstance" p) [a, .Name x p2] [] pos) (.va (.bl q)) :=
  ev_isi ha (ev_ty hgT hT hv hn hdb) (.ty T) ht (kit_ty hk) hm (fun _ z => nomatch z) hg he he2 hpl
theorem d_set {pos' : Pos} (n : Nat) (hN : X.N.Nodup) (he : Ev X H0 Oc Γ e s) (hr : Sds X W H0 Oc (Γ.set n s) rest out) (hi : X.N[n]? = some x := by rfl) (hx : Loc X.env.scope x := by first | exact .inl rfl | exact .inr rfl) (hs : swapsWith e (some (.Name x pos')) pos.line X.env = pure false := by rfl) (hf : X.fn x = true ∨ X.env.scope.names.lookup x = some .local := by first | exact .inr rfl | exact .inl rfl) :
    Sds X W H0 Oc Γ (.Assign [.Name x pos'] e pos :: rest) out := sds_set n he hr hN hi hx hs hf
theorem d_ret (he : Ev X H0 Oc Γ e (.va d)) (h : d = d1) : Sds X W H0 Oc Γ (.Return (some e) pos :: rest) (.ret (.va d1)) := h ▸ sds_ret he
theorem d_retO (he : Ev X H0 Oc Γ e (.ow d)) (h : d = d1) : Sds X W H0 Oc Γ (.Return (some e) pos :: rest) (.ret (.ow d1)) := h ▸ sds_ret he
theorem Ev.ii {i j : Int} (h : Ev X H0 Oc Γ e (.va (.int i))) (hd : i = j) : Ev X H0 Oc Γ e (.va (.int j)) := hd ▸ h
theorem Ev.bb {p q : Bool} (h : Ev X H0 Oc Γ e (.va (.bl p))) (hd : p = q) : Ev X H0 Oc Γ e (.va (.bl q)) := hd ▸ h
theorem Et.bb {p q : Bool} (h : Et X H0 Oc Γ e p) (hd : p = q) : Et X H0 Oc Γ e q := hd ▸ h
/-- if c: leave; rest -/
theorem d_ifx (hc : Et X H0 Oc Γ c q) (hx : out.exit = true) (h1 : q = true → Sds X W H0 Oc Γ body out) (h2 : q = false → Sds X W H0 Oc Γ rest out) : Sds X W H0 Oc Γ (.If c body [] pos :: rest) out := sds_ifx hc (fun z => ⟨h1 z, hx⟩) h2
theorem t_name {pos' : Pos} (n : Nat) (hN : X.N.Nodup) (hi : X.N[n]? = some x := by rfl) (hx : Loc X.env.scope x := by first | exact .inl rfl | exact .inr rfl) (hf : X.fn x = true ∨ X.env.scope.names.lookup x = some .local := by first | exact .inr rfl | exact .inl rfl) : Tg X H0 Oc (.Name x pos') Γ s (Γ.set n s) := tg_name n hN hi hx hf
theorem d_app {cpos epos : Pos} (n : Nat) (he : Ev X H0 Oc Γ e (.va d)) (hn : ds.length ≤ 1000000) (hr : Sds X W H0 Oc (Γ.set n (.ow (.lst (ds ++ [d])))) rest out) (h : Γ[n]? = some (.ow (.lst ds)) := by rfl) (hst : stab Γ = true := by rfl)
    (hN : X.N[n]? = some x := by rfl) (hv : Vis X.env.scope x := by first | exact .inl rfl | exact .inr (.inl rfl) | exact .inr (.inr rfl)) (hd : (x == ("__debug__" : Str)) = false := by rfl) (hcd : (x == ("__classdict__" : Str)) = false := by rfl)
    (hbase : attributeBase (.Name x p) "append" X.env (eval (.Name x p) X.env) = eval (.Name x p) X.env := by rfl)
    (hfew : ((backTo cpos (starEach [e] X.env)).all (fun x => !x.1) && (backToKw cpos (keywordEach [] X.env)).all (fun x => x.1.isSome)
      && decide (([e] : List Expr).length + ([] : List Keyword).length + (if ([] : List Keyword).isEmpty then 0 else 1) < 30)) = true := by rfl)
    (hline : (apos.endLine == cpos.line) = true := by rfl) (hs : starEach [e] X.env = (false, eval e X.env) :: starEach [] X.env := by rfl) (hplain : (backTo cpos (starEach [] X.env)).any (·.1) = false := by rfl)
    (hsw : swapsWith (.Call (.Attribute (.Name x p) "append" apos) [e] [] cpos) none epos.line X.env = pure false := by rfl) :
    Sds X W H0 Oc Γ (.Expr (.Call (.Attribute (.Name x p) "append" apos) [e] [] cpos) epos :: rest) out := sds_app n h hst he hn hr hN hv hd hcd hbase hfew hline hs hplain hsw
end
end Y

namespace Y
open PySem L2
/-! ## loops by their turns -/
def runE {α β ε : Type} (step : α → β → Except ε α) : α → List β → Except ε α
  | a, [] => .ok a
  | a, b :: bs => match step a b with
    | .ok a' => runE step a' bs
    | .error e => .error e
theorem runE_app {α β ε : Type} (step : α → β → Except ε α) : ∀ (a : α) (xs ys : List β), runE step a (xs ++ ys) = match runE step a xs with | .ok a' => runE step a' ys | .error e => .error e
  | a, [], ys => rfl
  | a, b :: bs, ys => by
    show (match step a b with | .ok a' => runE step a' (bs ++ ys) | .error e => .error e) = match (match step a b with | .ok a' => runE step a' bs | .error e => .error e) with | .ok a' => runE step a' ys | .error e => .error e
    cases step a b with
    | ok a' => exact runE_app step a' bs ys
    | error e => rfl
section
variable {X : Cx} {W : WX} {H0 : Hp} {Oc : List Addr} {Γ Γ1 Γ' : List Sl} {e a b c o tg iter elt ie : Expr} {es ifs : List Expr} {rest body els : List Stmt} {pos : Pos} {out : Out}
/-- how a turn's end fits the step -/
def StepOk (X : Cx) (W : WX) (H0 : Hp) (Oc : List Addr) (rest : List Stmt) (out : Out) {α : Type} (GG : α → List Sl) (ob : Out) : Except Out α → Prop
  | .ok st => (∃ Γ2, ob = .nx Γ2 ∧ Sub Γ2 (GG st)) ∨ (∃ Γ2, ob = .cnt Γ2 ∧ Sub Γ2 (GG st))
  | .error r => ob = r ∧ ((∃ s, r = .ret s) ∨ (∃ C ns ds Γe, r = .exc C ns ds Γe) ∨ ∃ Γ2, r = .brk Γ2)
def Behind (X : Cx) (W : WX) (H0 : Hp) (Oc : List Addr) (rest : List Stmt) (out : Out) {α : Type} (GG : α → List Sl) : Except Out α → Prop
  | .ok st => Sds X W H0 Oc (GG st) rest out
  | .error (.brk Γ2) => Sds X W H0 Oc Γ2 rest out
  | .error r => out = r
theorem d_for {α β : Type} (xs : List β) (enc : β → D) (step : α → β → Except Out α) (a0 : α) (GG : α → List Sl) (hp : PassesOwn (model X.prog X.w) X.A X.env X.xe) (hc : X.calm = true) (hi : Ei X H0 Oc Γ tg iter (xs.map enc)) (h0 : Sub Γ (GG a0))
    (hb : ∀ st b pre post, xs = pre ++ b :: post → runE step a0 pre = .ok st → ∃ Γ1 ob, Tg X H0 Oc tg (GG st) (.va (enc b)) Γ1 ∧ Sds X W H0 Oc Γ1 body ob ∧ StepOk X W H0 Oc rest out GG ob (step st b))
    (hr : Behind X W H0 Oc rest out GG (runE step a0 xs))
    (hs : ∀ x, foldedSetIterable iter X.env x = pure x := by intro _; rfl) : Sds X W H0 Oc Γ (.For tg iter body [] pos :: rest) out := by
  let G : Nat → List Sl := fun i => match runE step a0 (xs.take i) with | .ok st => GG st | .error _ => []
  refine sds_for G (fun i => ∃ st, runE step a0 (xs.take i) = .ok st) hp hc hi (by show Sub Γ (match runE step a0 (xs.take 0) with | .ok st => GG st | .error _ => []); rw [List.take_zero]; exact h0) ⟨a0, by rw [List.take_zero]; rfl⟩ ?_ ?_ hs
  · rintro i d hd ⟨st, hst⟩
    rw [List.getElem?_map] at hd
    cases hx : xs[i]? with
    | none => rw [hx] at hd; cases hd
    | some b =>
      rw [hx] at hd
      have hd' := Option.some.inj hd
      subst hd'
      have hi : i < xs.length := (List.getElem?_eq_some_iff.mp hx).1
      have hsp : xs = xs.take i ++ b :: xs.drop (i + 1) := by
        have e : xs.drop i = b :: xs.drop (i + 1) := by
          rw [List.drop_eq_getElem_cons hi]
          congr 1
          exact (List.getElem?_eq_some_iff.mp hx).2
        rw [← e, List.take_append_drop]
      obtain ⟨Γ1, ob, t1, t2, t3⟩ := hb st b _ _ hsp hst
      have eG : G i = GG st := by show (match runE step a0 (xs.take i) with | .ok st => GG st | .error _ => []) = _; rw [hst]
      refine ⟨Γ1, ob, eG ▸ t1, t2, ?_⟩
      have nxt : runE step a0 (xs.take (i + 1)) = match step st b with | .ok a' => .ok a' | .error e => .error e := by
        rw [List.take_add_one, hx, runE_app, hst]
        simp only [Option.toList, runE]
        cases step st b <;> rfl
      have all : ∀ r, step st b = .error r → runE step a0 xs = .error r := fun r hr' => by
        rw [hsp, runE_app, hst]
        simp only [runE, hr']
      cases hstep : step st b with
      | ok st' =>
        rw [hstep] at t3 nxt
        have eG' : G (i + 1) = GG st' := by show (match runE step a0 (xs.take (i + 1)) with | .ok st => GG st | .error _ => []) = _; rw [nxt]
        rcases t3 with ⟨Γ2, rfl, hsub⟩ | ⟨Γ2, rfl, hsub⟩
        · exact ⟨eG' ▸ hsub, st', nxt⟩
        · exact ⟨eG' ▸ hsub, st', nxt⟩
      | error r =>
        rw [hstep] at t3
        rw [all r hstep] at hr
        obtain ⟨rfl, hr'⟩ := t3
        rcases hr' with ⟨s, rfl⟩ | ⟨C, ns, ds, Γe, rfl⟩ | ⟨Γ2, rfl⟩
        · exact Eq.symm hr
        · exact Eq.symm hr
        · exact hr
  · rintro ⟨st, hst⟩
    rw [List.length_map] at hst ⊢
    rw [List.take_length] at hst
    have eG : G xs.length = GG st := by show (match runE step a0 (xs.take xs.length) with | .ok st => GG st | .error _ => []) = _; rw [List.take_length, hst]
    rw [eG]
    rw [hst] at hr
    exact hr
theorem runE_ok {α β ε : Type} (step : α → β → α) : ∀ (a : α) (xs : List β), runE (ε := ε) (fun a b => .ok (step a b)) a xs = .ok (xs.foldl step a)
  | _, [] => rfl
  | a, b :: bs => by
    simp only [runE, List.foldl]
    exact runE_ok step (step a b) bs
theorem d_forP {α β : Type} (xs : List β) (enc : β → D) (step : α → β → α) (a0 : α) (GG : α → List Sl) (hp : PassesOwn (model X.prog X.w) X.A X.env X.xe) (hc : X.calm = true) (hi : Ei X H0 Oc Γ tg iter (xs.map enc)) (h0 : Sub Γ (GG a0))
    (hb : ∀ st b pre post, xs = pre ++ b :: post → st = pre.foldl step a0 → ∃ Γ1 Γ2, Tg X H0 Oc tg (GG st) (.va (enc b)) Γ1 ∧ Sds X W H0 Oc Γ1 body (.nx Γ2) ∧ Sub Γ2 (GG (step st b)))
    (hr : Sds X W H0 Oc (GG (xs.foldl step a0)) rest out)
    (hs : ∀ x, foldedSetIterable iter X.env x = pure x := by intro _; rfl) : Sds X W H0 Oc Γ (.For tg iter body [] pos :: rest) out :=
  d_for xs enc (fun a b => .ok (step a b)) a0 GG hp hc hi h0 (fun st b pre post h1 h2 => by
    rw [runE_ok] at h2
    obtain ⟨Γ1, Γ2, h3, h4, h5⟩ := hb st b pre post h1 (Except.ok.inj h2).symm
    exact ⟨Γ1, _, h3, h4, .inl ⟨Γ2, rfl, h5⟩⟩) (by rw [runE_ok]; exact hr) hs
/-- 10 ** 18 -/
theorem e_1018 {k1 k2 : Nat} {p1 p2 : Pos} {pos : Pos} : Ev X H0 Oc Γ (.BinOp (.Constant (.int 10) k1 p1) .Pow (.Constant (.int 18) k2 p2) pos) (.va (.int 1000000000000000000)) :=
  (ev_pow ev_int ev_int ⟨by decide, by decide, by decide⟩).ii rfl
/-- one slot alone -/
theorem WfO.pick {K : PySem.W.Frag} {H : Hp} {O : List Addr} {G : List Sl} {S : List (Option V)} {i : Nat} {s : Sl} {y : Option V} (w : WfO K H0 Oc O G S H) (h1 : G[i]? = some s) (h2 : S[i]? = some y) : WfO K H0 Oc O [s] [y] H := by
  refine ⟨w.sub, w.new, w.old, w.live, w.ex, rfl, fun j s' x h3 h4 => ?_, fun j k p d d' h3 h4 h5 h6 => ?_⟩
  · cases j with
    | zero =>
      cases h3
      cases h4
      exact w.ok i _ _ h1 h2
    | succ j => cases h3
  · cases j with
    | zero => cases k with
      | zero => rfl
      | succ k => cases h5
    | succ j => cases h3
/-- return x, x one's own -/
theorem d_retV {x : Str} {d d1 : D} {p : Pos} (n : Nat) (he : d = d1) (h : Γ[n]? = some (.ow d) := by rfl) (hN : X.N[n]? = some x := by rfl) (hv : Vis X.env.scope x := by first | exact .inl rfl | exact .inr (.inl rfl) | exact .inr (.inr rfl)) (hd : (x == ("__debug__" : Str)) = false := by rfl) (hcd : (x == ("__classdict__" : Str)) = false := by rfl) :
    Sds X W H0 Oc Γ (.Return (some (.Name x p)) pos :: rest) (.ret (.ow d1)) := fun Δ τ σ H D hl st ⟨O, w⟩ k => by
  subst he
  refine wpSs.of (pss_cons (ps_ret (pe_var hN hv hd hcd)) pss_wp) ?_
  obtain ⟨y, hy, pp, oo, rfl, g2, g3, g4, g5⟩ := slot_of hl w h
  obtain ⟨h1, h2⟩ := len_app (σ := σ) hl h
  exact ⟨.ref pp, hy, k _ H ⟨O, w.pick h1 (h2.trans hy)⟩⟩
theorem Sub.eqc {s s' : Sl} {G G' : List Sl} (e : s = s') (h : Sub G G') : Sub (s :: G) (s' :: G') := e ▸ .eq h
end
/-- a list grown by one -/
theorem lst1 {α : Type} (f : α → D) (xs : List α) (a : α) : Sl.ow (.lst (xs.map f ++ [f a])) = .ow (.lst ((xs ++ [a]).map f)) := by rw [List.map_append] <;> rfl
theorem atI_map {α : Type} {f : α → D} {xs : List α} {k : Nat} {a : α} (h : xs[k]? = some a) : L2.atI (xs.map f) (k : Int) = some (f a) := L2.atI_nat (by rw [List.getElem?_map, h]; rfl)
end Y

namespace Y
open PySem L2
section
variable {X : Cx} {W : WX} {H0 : Hp} {Oc : List Addr} {Γ Γ1 Γ' : List Sl} {e a b c o tg iter elt ie t1 : Expr} {es ifs : List Expr} {rest body els : List Stmt} {pos pos' p : Pos} {out : Out} {scope : Scope} {own : List (Str × Nat)} {y : Str}
/-- [g for x in xs] -/
theorem e_lc {α : Type} (xs : List α) (enc : α → D) (g : α → D) (Γe : α → List Sl) (hc : X.calm = true) (hN : X.N.Nodup) (ok : BlkOk X.N X.env.scope scope own) (hi : Ei X H0 Oc Γ tg iter (xs.map enc)) (hn : xs.length ≤ 1000000)
    (ht : ∀ x ∈ xs, ∀ H0' Oc' s0 H00 C cl fp, Tgw (blkX X scope s0 H00 C cl fp) H0' Oc' (own.map (·.2)) tg (wipeG (Γ.map Sl.arg) (own.map (·.2))) (.va (enc x)) (Γe x))
    (hst : ∀ x ∈ xs, stab (Γe x) = true ∧ Sub (wipeG (Γe x) (own.map (·.2))) (wipeG (Γ.map Sl.arg) (own.map (·.2))))
    (he : ∀ x ∈ xs, ∀ H0' Oc' s0 H00 C cl fp, Ev (blkX X scope s0 H00 C cl fp) H0' Oc' (Γe x) elt (.va (g x)))
    (hs : ∀ x, foldedSetIterable iter X.env x = pure x := by intro _; rfl) : Ev X H0 Oc Γ (.ListComp elt [⟨tg, iter, [], 0⟩] scope pos) (.ow (.lst (xs.map g))) := by
  have := ev_lc (ifs := []) (elt := elt) (iter := iter) (scope := scope) (pos := pos) xs enc (fun _ => true) g Γe hc hN ok hi hn ht hst (fun _ _ _ _ _ _ _ _ _ => rfl) (fun x hx _ => he x hx) hs
  rwa [List.filter_eq_self.mpr fun _ _ => rfl] at this
/-- [g for x in xs if pr] -/
theorem e_lcf {α : Type} (xs : List α) (enc : α → D) (pr : α → Bool) (g : α → D) (Γe : α → List Sl) (hc : X.calm = true) (hN : X.N.Nodup) (ok : BlkOk X.N X.env.scope scope own) (hi : Ei X H0 Oc Γ tg iter (xs.map enc)) (hn : xs.length ≤ 1000000)
    (ht : ∀ x ∈ xs, ∀ H0' Oc' s0 H00 C cl fp, Tgw (blkX X scope s0 H00 C cl fp) H0' Oc' (own.map (·.2)) tg (wipeG (Γ.map Sl.arg) (own.map (·.2))) (.va (enc x)) (Γe x))
    (hst : ∀ x ∈ xs, stab (Γe x) = true ∧ Sub (wipeG (Γe x) (own.map (·.2))) (wipeG (Γ.map Sl.arg) (own.map (·.2))))
    (hp : ∀ x ∈ xs, ∀ H0' Oc' s0 H00 C cl fp, Et (blkX X scope s0 H00 C cl fp) H0' Oc' (Γe x) t1 (pr x))
    (he : ∀ x ∈ xs, pr x = true → ∀ H0' Oc' s0 H00 C cl fp, Ev (blkX X scope s0 H00 C cl fp) H0' Oc' (Γe x) elt (.va (g x)))
    (hs : ∀ x, foldedSetIterable iter X.env x = pure x := by intro _; rfl) : Ev X H0 Oc Γ (.ListComp elt [⟨tg, iter, [t1], 0⟩] scope pos) (.ow (.lst ((xs.filter pr).map g))) :=
  ev_lc (ifs := [t1]) (elt := elt) (iter := iter) (scope := scope) (pos := pos) xs enc pr g Γe hc hN ok hi hn ht hst hp he hs
theorem d_setLc {α : Type} (n : Nat) (xs : List α) (enc : α → D) (g : α → D) (Γe : α → List Sl) (hc : X.calm = true) (hN : X.N.Nodup) (ok : BlkOk X.N X.env.scope scope own) (hi : Ei X H0 Oc Γ tg iter (xs.map enc)) (hn : xs.length ≤ 1000000)
    (ht : ∀ x ∈ xs, ∀ H0' Oc' s0 H00 C cl fp, Tgw (blkX X scope s0 H00 C cl fp) H0' Oc' (own.map (·.2)) tg (wipeG (Γ.map Sl.arg) (own.map (·.2))) (.va (enc x)) (Γe x))
    (hst : ∀ x ∈ xs, stab (Γe x) = true ∧ Sub (wipeG (Γe x) (own.map (·.2))) (wipeG (Γ.map Sl.arg) (own.map (·.2))))
    (he : ∀ x ∈ xs, ∀ H0' Oc' s0 H00 C cl fp, Ev (blkX X scope s0 H00 C cl fp) H0' Oc' (Γe x) elt (.va (g x)))
    (hr : Sds X W H0 Oc (Γ.set n (.ow (.lst (xs.map g)))) rest out)
    (hy : X.N[n]? = some y := by rfl) (hyl : X.env.scope.names.lookup y = some .local := by rfl) (hk : X.env.scope.kind = .function := by rfl) (hln : (p.line == pos.line) = true := by rfl)
    (han : (scope.names.any fun (m, k) => m == y && (k == .local || k == .cell)) = false := by rfl)
    (hs : ∀ x, foldedSetIterable iter X.env x = pure x := by intro _; rfl) : Sds X W H0 Oc Γ (.Assign [.Name y p] (.ListComp elt [⟨tg, iter, [], 0⟩] scope pos) pos' :: rest) out :=
  sds_setLc (ifs := []) (elt := elt) (iter := iter) (scope := scope) n xs enc (fun _ => true) g Γe hc hN ok hi hn ht hst (fun _ _ _ _ _ _ _ _ _ => rfl) (fun x hx _ => he x hx) (by rwa [List.filter_eq_self.mpr fun _ _ => rfl]) hy hyl hk hln han hs
theorem d_setLcf {α : Type} (n : Nat) (xs : List α) (enc : α → D) (pr : α → Bool) (g : α → D) (Γe : α → List Sl) (hc : X.calm = true) (hN : X.N.Nodup) (ok : BlkOk X.N X.env.scope scope own) (hi : Ei X H0 Oc Γ tg iter (xs.map enc)) (hn : xs.length ≤ 1000000)
    (ht : ∀ x ∈ xs, ∀ H0' Oc' s0 H00 C cl fp, Tgw (blkX X scope s0 H00 C cl fp) H0' Oc' (own.map (·.2)) tg (wipeG (Γ.map Sl.arg) (own.map (·.2))) (.va (enc x)) (Γe x))
    (hst : ∀ x ∈ xs, stab (Γe x) = true ∧ Sub (wipeG (Γe x) (own.map (·.2))) (wipeG (Γ.map Sl.arg) (own.map (·.2))))
    (hp : ∀ x ∈ xs, ∀ H0' Oc' s0 H00 C cl fp, Et (blkX X scope s0 H00 C cl fp) H0' Oc' (Γe x) t1 (pr x))
    (he : ∀ x ∈ xs, pr x = true → ∀ H0' Oc' s0 H00 C cl fp, Ev (blkX X scope s0 H00 C cl fp) H0' Oc' (Γe x) elt (.va (g x)))
    (hr : Sds X W H0 Oc (Γ.set n (.ow (.lst ((xs.filter pr).map g)))) rest out)
    (hy : X.N[n]? = some y := by rfl) (hyl : X.env.scope.names.lookup y = some .local := by rfl) (hk : X.env.scope.kind = .function := by rfl) (hln : (p.line == pos.line) = true := by rfl)
    (han : (scope.names.any fun (m, k) => m == y && (k == .local || k == .cell)) = false := by rfl)
    (hs : ∀ x, foldedSetIterable iter X.env x = pure x := by intro _; rfl) : Sds X W H0 Oc Γ (.Assign [.Name y p] (.ListComp elt [⟨tg, iter, [t1], 0⟩] scope pos) pos' :: rest) out :=
  sds_setLc (ifs := [t1]) (elt := elt) (iter := iter) (scope := scope) n xs enc pr g Γe hc hN ok hi hn ht hst hp he hr hy hyl hk hln han hs
theorem tw_name {vs : List Nat} {x : Str} {s : Sl} (n : Nat) (hN : X.N.Nodup) (hi : X.N[n]? = some x := by rfl) (hx : Loc X.env.scope x := by first | exact .inl rfl | exact .inr rfl) (hf : X.fn x = true ∨ X.env.scope.names.lookup x = some .local := by first | exact .inr rfl | exact .inl rfl) (hv : n ∈ vs := by simp) : Tgw X H0 Oc vs (.Name x pos') Γ s (Γ.set n s) :=
  tgw_name n hN hi hx hf hv
/-- range(n), n a natural number, as a list of naturals -/
theorem i_rng {j : Nat} (hm : X.mg "range" = none) (ha : Ev X H0 Oc Γ a (.va (.int (j : Int)))) (h2 : j ≤ 1000000000) (hg : Gl X "range" := by rfl) (hs : starEach [a] X.env = [(false, eval a X.env)] := by rfl) (hs' : starEach [a] X.env = (false, eval a X.env) :: starEach [] X.env := by rfl) :
    Ei X H0 Oc Γ tg (.Call (.Name "range" p) [a] [] pos) ((List.range j).map fun k : Nat => D.int k) :=
  (ei_rng1 ha (by omega) (by omega) hm hg hs hs').as (by
    unfold rngD
    rw [show ((j : Int).toNat) = j from rfl]
    exact List.map_congr_left fun k _ => by rw [Int.zero_add])
end
theorem rep_ints (n : Nat) (v : Int) : (List.replicate n [D.int v]).flatten = (List.replicate n v).map .int := by
  induction n with
  | zero => rfl
  | succ n ih => rw [List.replicate_succ, List.flatten_cons, ih, List.replicate_succ]; rfl
theorem cutD_nat {α : Type} (xs : List α) (a b : Nat) : Y.cutD xs (some (a : Int)) (some (b : Int)) = (xs.take b).drop a := by
  unfold Y.cutD
  rw [HT.sIx_nat, HT.sIx_nat]
  apply List.ext_getElem?
  intro i
  rw [List.getElem?_drop, List.getElem?_take, List.getElem?_take, List.getElem?_drop]
  by_cases h : a + i < xs.length
  · have e : min a xs.length = a := by omega
    rw [e]
    by_cases hb : a + i < b
    · rw [if_pos (by omega), if_pos hb]
    · rw [if_neg (by omega), if_neg hb]
  · rw [List.getElem?_eq_none (by omega : xs.length ≤ a + i)]
    by_cases hA : i < min b xs.length - min a xs.length
    · rw [if_pos hA, List.getElem?_eq_none (by omega)]
      split <;> rfl
    · rw [if_neg hA]
      split <;> rfl
theorem cutD_from {α : Type} (xs : List α) (a : Nat) : Y.cutD xs (some (a : Int)) none = xs.drop a := by
  unfold Y.cutD
  rw [HT.sIx_nat, HT.sIx_none]
  by_cases h : a ≤ xs.length
  · rw [Nat.min_eq_left h, List.take_of_length_le (by rw [List.length_drop]; exact Nat.le_refl _)]
  · rw [Nat.min_eq_right (by omega), List.drop_of_length_le (by omega : xs.length ≤ a), List.drop_length]
    exact List.take_nil
theorem cutD_upto {α : Type} (xs : List α) (b : Nat) : Y.cutD xs none (some (b : Int)) = xs.take b := by
  unfold Y.cutD
  rw [HT.sIx_nat, HT.sIx_none]
  by_cases h : b ≤ xs.length
  · rw [Nat.min_eq_left h]; rfl
  · rw [Nat.min_eq_right (by omega), List.take_of_length_le (by omega : xs.length ≤ b)]
    exact List.take_of_length_le (Nat.le_refl _)
theorem cutD_butLast {α : Type} (xs : List α) : Y.cutD xs none (some (-1)) = xs.dropLast := by
  unfold Y.cutD
  rw [HT.sIx_none, List.dropLast_eq_take]
  have e : HT.sIx xs.length xs.length (some (-1)) = xs.length - 1 := by
    show (if (-1 : Int) < 0 then (-1 + (xs.length : Int)).toNat else min (-1 : Int).toNat xs.length) = _
    rw [if_pos (by decide)]
    omega
  rw [e]
  rfl
/-- enumerate -/
def enumF {α : Type} : Nat → List α → List (Nat × α)
  | _, [] => []
  | i, x :: xs => (i, x) :: enumF (i + 1) xs
theorem enumF_get {α : Type} : ∀ (k : Nat) (xs : List α) (i : Nat), (enumF k xs)[i]? = xs[i]?.map fun x => (k + i, x)
  | _, [], _ => by simp [enumF]
  | k, x :: xs, 0 => by simp [enumF]
  | k, x :: xs, i + 1 => by
    show (enumF (k + 1) xs)[i]? = xs[i]?.map _
    rw [enumF_get (k + 1) xs i]
    congr 1
    funext x
    congr 1
    omega
theorem enumF_len {α : Type} : ∀ (k : Nat) (xs : List α), (enumF k xs).length = xs.length
  | _, [] => rfl
  | k, x :: xs => congrArg Nat.succ (enumF_len (k + 1) xs)
theorem enumD_map {α : Type} (enc : α → D) (xs : List α) : enumD (xs.map enc) = (enumF 0 xs).map fun p => .tup [.int (p.1 : Int), enc p.2] := by
  apply List.ext_getElem?
  intro i
  rw [List.getElem?_map, enumF_get]
  cases e : xs[i]? with
  | none =>
    have : (xs.map enc).length ≤ i := by rw [List.length_map]; exact List.getElem?_eq_none_iff.mp e
    rw [List.getElem?_eq_none (by rw [enumD_len]; exact this)]
    rfl
  | some x =>
    rw [enumD_get (d := enc x) (by rw [List.getElem?_map, e]; rfl)]
    simp
section
variable {X : Cx} {W : WX} {H0 : Hp} {Oc : List Addr} {Γ : List Sl} {a : Expr} {p pos : Pos} {s : Sl}
theorem i_enum {α : Type} (enc : α → D) (xs : List α) {elts : List Expr} {kk : Nat} {tpos : Pos} (hm : X.mg "enumerate" = none) (ha : Ev X H0 Oc Γ a s) (hs : s.held = some (.lst (xs.map enc)) := by rfl) (hg : Gl X "enumerate" := by rfl) (hst : starEach [a] X.env = [(false, eval a X.env)] := by rfl) (hst' : starEach [a] X.env = (false, eval a X.env) :: starEach [] X.env := by rfl) :
    Ei X H0 Oc Γ (.Tuple elts kk tpos) (.Call (.Name "enumerate" p) [a] [] pos) ((enumF 0 xs).map fun p => .tup [.int (p.1 : Int), enc p.2]) :=
  (ei_enum ha hs hm hg hst hst').as (enumD_map enc xs)
theorem t_two {x z : Str} {p2 p3 : Pos} {kk : Nat} {d1 d2 : D} (n1 n2 : Nat) (hc : X.calm = true) (hN : X.N.Nodup) (h1 : X.N[n1]? = some x := by rfl) (h2 : X.N[n2]? = some z := by rfl) (hx : Loc X.env.scope x := by first | exact .inl rfl | exact .inr rfl) (hz : Loc X.env.scope z := by first | exact .inl rfl | exact .inr rfl) (hf : X.fn x = true ∨ X.env.scope.names.lookup x = some .local := by first | exact .inr rfl | exact .inl rfl) (hg : X.fn z = true ∨ X.env.scope.names.lookup z = some .local := by first | exact .inr rfl | exact .inl rfl) :
    Tg X H0 Oc (.Tuple [.Name x p, .Name z p2] kk p3) Γ (.va (.tup [d1, d2])) ((Γ.set n1 (.va d1)).set n2 (.va d2)) := tg_tup2 n1 n2 hc hN h1 h2 hx hz hf hg
theorem t_seq {a : Expr} {d : D} {ds : List D} (ha : Ev X H0 Oc Γ a (.bw d)) (hd : seqD d = some ds := by rfl) (he : ∀ whole, isTrue a X.env whole = (do let v ← whole; standAt a.pos; holding [v] (truthy v)) := by intro _; rfl) : Et X H0 Oc Γ a (!ds.isEmpty) := et_seq ha hd he
/-- self.f = e -/
theorem d_fld {W : WX} {e : Expr} {d d1 : D} {C : Addr} {ns : List Str} {ds : List D} {f x : Str} {rest : List Stmt} {out : Out} {pp : Pos} (n : Nat) (cl : Cls X.K C) (na : NoAttr X.K C f) (he : Ev X H0 Oc Γ e (.va d1)) (hr : Sds X W H0 Oc (Γ.set n (.ow (d.put (ns ++ [f]) (ds ++ [d1])))) rest out)
    (h : Γ[n]? = some (.ow d) := by rfl) (ho : d.own = some (C, ns, ds) := by rfl) (hst : stab Γ = true := by rfl) (hf : f ∉ ns := by decide) (hlen : ns.length < 1000 := by decide)
    (hN : X.N[n]? = some x := by rfl) (hv : Vis X.env.scope x := by first | exact .inl rfl | exact .inr (.inl rfl) | exact .inr (.inr rfl)) (hd : (x == ("__debug__" : Str)) = false := by rfl) (hcd : (x == ("__classdict__" : Str)) = false := by rfl)
    (hs : swapsWith e (some (.Attribute (.Name x p) f pp)) pos.line X.env = pure false := by rfl) : Sds X W H0 Oc Γ (.Assign [.Attribute (.Name x p) f pp] e pos :: rest) out := sds_fld n h ho hst cl na hf hlen he hr hN hv hd hcd hs
end
end Y

namespace Y
open PySem L2
/-! ## comparable data -/
def okN (n : Nat) (d : D) : Prop := isPy d = true ∧ (py d).canLay0 = true ∧ (py d).depth ≤ n
def okNs (n : Nat) (ds : List D) : Prop := isPys ds = true ∧ PyData.canLayAll0 (pys ds) = true ∧ PyData.depthAll (pys ds) ≤ n
theorem okN.ok {n : Nat} {d : D} (h : okN n d) (hn : n ≤ 64) : okD d = true := by
  unfold okD SeqAt.shaped
  rw [h.1, h.2.1, decide_eq_true (Nat.le_trans h.2.2 hn)] <;> rfl
theorem okN_int {n : Nat} {i : Int} : okN n (.int i) := ⟨rfl, rfl, Nat.zero_le _⟩
theorem okN_bl {n : Nat} {b : Bool} : okN n (.bl b) := ⟨rfl, rfl, Nat.zero_le _⟩
theorem okN_non {n : Nat} : okN n .non := ⟨rfl, rfl, Nat.zero_le _⟩
theorem okNs_nil {n : Nat} : okNs n [] := ⟨rfl, rfl, Nat.zero_le _⟩
theorem okNs_cons {n : Nat} {d : D} {ds : List D} (h : okN n d) (g : okNs n ds) : okNs n (d :: ds) := by
  refine ⟨?_, ?_, ?_⟩
  · show (isPy d && isPys ds) = true
    rw [h.1, g.1] <;> rfl
  · show ((py d).canLay0 && PyData.canLayAll0 (pys ds)) = true
    rw [h.2.1, g.2.1] <;> rfl
  · show max (py d).depth (PyData.depthAll (pys ds)) ≤ n
    exact Nat.max_le.mpr ⟨h.2.2, g.2.2⟩
theorem okNs_all {n : Nat} : ∀ {ds : List D}, (∀ d ∈ ds, okN n d) → okNs n ds
  | [], _ => okNs_nil
  | _ :: _, h => okNs_cons (h _ List.mem_cons_self) (okNs_all fun d hd => h d (List.mem_cons_of_mem _ hd))
theorem okN_tup {n : Nat} {ds : List D} (h : okNs n ds) : okN (n + 1) (.tup ds) := ⟨h.1, h.2.1, by
  show PyData.depthAll (pys ds) + 1 ≤ n + 1
  have := h.2.2
  omega⟩
theorem okN_lst {n : Nat} {ds : List D} (h : okNs n ds) : okN (n + 1) (.lst ds) := ⟨h.1, h.2.1, by
  show PyData.depthAll (pys ds) + 1 ≤ n + 1
  have := h.2.2
  omega⟩
theorem okN_map {α : Type} {n : Nat} {f : α → D} {xs : List α} (h : ∀ x, okN n (f x)) : okNs n (xs.map f) := okNs_all fun d hd => by
  obtain ⟨x, _, e⟩ := List.mem_map.mp hd
  exact e ▸ h x
/-- codes that == tells apart as Lean does -/
def EqC {α : Type} [DecidableEq α] (f : α → D) : Prop := ∀ x y, eqD (f x) (f y) = decide (x = y)
def eqDs (xs ys : List D) : Bool := PyData.eqvAll (pys xs) (pys ys)
theorem eqDs_map {α : Type} [DecidableEq α] {f : α → D} (h : EqC f) : ∀ (xs ys : List α), eqDs (xs.map f) (ys.map f) = decide (xs = ys)
  | [], [] => rfl
  | [], _ :: _ => rfl
  | _ :: _, [] => rfl
  | x :: xs, y :: ys => by
    show (eqD (f x) (f y) && eqDs (xs.map f) (ys.map f)) = _
    rw [h x y, eqDs_map h xs ys]
    by_cases a : x = y <;> by_cases b : xs = ys <;> simp [a, b]
theorem eqC_int : EqC (D.int) := fun x y => by
  show (x == y) = _
  by_cases h : x = y <;> simp [h]
theorem eqC_tup {α : Type} [DecidableEq α] {f : α → D} (h : EqC f) : EqC fun xs : List α => D.tup (xs.map f) := fun xs ys => eqDs_map h xs ys
theorem eqC_lst {α : Type} [DecidableEq α] {f : α → D} (h : EqC f) : EqC fun xs : List α => D.lst (xs.map f) := fun xs ys => eqDs_map h xs ys
section
variable {X : Cx} {H0 : Hp} {Oc : List Addr} {d1 d2 : D}
/-- a == b of two such data -/
theorem c_eq {α : Type} [DecidableEq α] {f : α → D} (hu : X.A.units + 64 < cLine) (h : EqC f) (n : Nat) (hk : ∀ x, okN n (f x)) (hn : n ≤ 64) (x y : α) : C2 X H0 Oc .Eq (.bw (f x)) (.bw (f y)) (decide (x = y)) := h x y ▸ cm_eqD hu ((hk x).ok hn) ((hk y).ok hn)
theorem c_ne {α : Type} [DecidableEq α] {f : α → D} (hu : X.A.units + 64 < cLine) (h : EqC f) (n : Nat) (hk : ∀ x, okN n (f x)) (hn : n ≤ 64) (x y : α) : C2 X H0 Oc .NotEq (.bw (f x)) (.bw (f y)) (!decide (x = y)) := h x y ▸ cm_neD hu ((hk x).ok hn) ((hk y).ok hn)
theorem hu64 {A : Around} {k : Nat} (hr : Room k A) : A.units + 64 < cLine := by
  have := hr.un
  omega
end
section
variable {X : Cx} {H0 : Hp} {Oc : List Addr} {Γ : List Sl} {ad C dd : Addr} {oe : Obj} {pn : List (Addr × Obj)} {ns : List Str} {ds : List D} {a b : Expr} {x f : Str} {p p2 pos : Pos} {cv : V} {u : Value} {q : Bool} {d : D}
/-- isinstance(e, C), e the suite's own exception -/
theorem e_isE (hm : X.mg "isinstance" = none) (T : XcE X.K C) (hz : L2N.Zn (.ref C) (some dd) oe) (hf : ∃ vs, oe.data = .fields vs) (ha : Ev (X.suite ad ((ad, oe) :: pn)) H0 Oc Γ a (.va (.er ad C dd ns ds))) (hb : Ev (X.suite ad ((ad, oe) :: pn)) H0 Oc Γ b (.va (.opq cv)))
    (k : ClsV cv u) (hk : PySem.W.kitOne X.K (.ref C) u = some q) (hg : Gl X "isinstance" := by rfl)
    (he : starEach [a, b] X.env = (false, eval a X.env) :: starEach [b] X.env := by rfl) (he2 : starEach [b] X.env = (false, eval b X.env) :: starEach [] X.env := by rfl) (hpl : (backTo pos (starEach [b] X.env)).any (·.1) = false := by rfl) : Ev (X.suite ad ((ad, oe) :: pn)) H0 Oc Γ (.Call (.Name "isinstance" p) [a, b] [] pos) (.va (.bl q)) :=
  ev_isiE T hz hf ha hb k hk hm hg he he2 hpl
theorem e_cls {C : Addr} (hm : X.mg x = some (.ref C)) (hg : Gl X x := by rfl) (hdb : (x == ("__debug__" : Str)) = false := by decide) : Ev X H0 Oc Γ (.Name x pos) (.va (.opq (.ref C))) := ev_cls hg hm hdb
theorem e_ty {T : String} (hm : X.mg x = none) (hv : bootBuiltins x = some (.type T)) (hg : Gl X x := by rfl) (hn : x ≠ "__name__" := by decide) (hdb : (x == ("__debug__" : Str)) = false := by decide) : Ev X H0 Oc Γ (.Name x pos) (.va (.opq (.ty T))) := ev_ty hg hm hv hn hdb
end
end Y

namespace Y
open PySem PySem.Spec PyProof.Rows L2
/-! ## the ends -/
def pLaw : Pm := fun Γ o => ∃ ns : List Int, Γ = [.va (.fz (ns.map .int))] ∧ ns.length ≤ 63 ∧ o = .ret (.va (.bl true))
theorem law_sp {K : PySem.W.Frag} {H : Hp} {a : Addr} {ns : List Int} (hl : ns.length ≤ 63) (hS : SqL K H a (ns.map V.int)) : mkSp K pLaw [.ref a] H (fun v _ => v = .bl true) fun _ _ _ => False := by
  have ec : cut H [] = H := by
    funext b
    exact cut_out (by simp)
  refine ⟨[], _, _, ⟨ns, rfl, hl, rfl⟩, ⟨[], by simp, by simp, by simp, by simp, fun _ _ z => z, rfl, fun i s x h1 h2 => ?_, fun i j p d d' h1 h2 h3 h4 => ?_⟩, fun v H' ⟨O, w⟩ => ?_⟩
  · cases i with
    | zero =>
      cases h1
      cases h2
      refine ⟨_, rfl, a, ns.map V.int, rfl, ?_, Reps.of_ints⟩
      rw [ec]
      exact hS
    | succ i => cases h1
  · cases i with
    | zero => cases h1
    | succ i => cases h1
  · obtain ⟨u, e, r⟩ := w.head
    cases e
    exact r
theorem noCX {P : Program} {w : World} {H : Hp} {s : Shared} {e : Value} {s' : Shared} (c : L2N.CX P w [] H s (fun _ _ _ => False) e s') : False := by
  obtain ⟨_, _, _, _, _, _, _, _, _, _, _, _, z⟩ := c
  exact z
theorem walk (k : Nat) (hr : Room k callerA) {l : PySem.W.OpenLaw} {q : Program} {loose : List Str} {XP : (Str → Option Value) → Heap → Prop} {YP : World → Heap → Prop} {d : DefRec} {K : Params → PySem.W.Frag} (hn : l.most = some 63) (hdf : d.params.defaults = [])
    (hY : ∀ (w : World) (h : Heap), YP w h → (K w.params).In h)
    (F : ∀ (w : World) (mg : Str → Option Value) (fa : Addr) (h : Heap), (K w.params).In h → h.Ns mainGlobals mg → mg d.name = some (.ref fa) →
      ∃ fd : FuncData, (∀ (s : Shared) (u : Value), BindsTo s fd ⟨[u], []⟩ [("script", u)]) ∧ ∀ base : Heap, (K w.params).In base → base.Ns mainGlobals mg → FnOk l.prog w (K w.params) mg base (L2N.CX l.prog w) k fa fd ["script"] (mkSp (K w.params) pLaw)) :
    PySem.W.WalkO q loose XP YP l.row.toRowW d [] (fun f vs => PySem.call f vs) :=
  L2.walk_of (n := 63) (k := k) (x := "script") (CX := fun w => L2N.CX l.prog w) (sp := fun w => mkSp (K w.params) pLaw) hn (by decide) hdf hr hY F (fun _ _ a ns hl _ hS => law_sp hl hS) fun _ _ _ _ _ z => noCX z
/-! ### facts of the written part -/
theorem pins_of {K : PySem.W.Frag} {C : Addr} (cl : Cls K C) (ha : PySem.W.findIn K (.ref C) "__class__" = some (some (.builtin "object.__class__"))) (hn : PySem.W.specialIn K (.builtin "object.__class__") "__get__" = some (some (.builtin "getset_descriptor.__get__"))) (tk : PySem.W.takesIn K (.builtin "object.__class__") = some true) (hm : PySem.W.mroIn K C (.type "object") = some true) : IsC K C := ⟨cl, ha, hn, tk, hm⟩
section
variable {P : Program} {K : PySem.W.Frag} {mg : Str → Option Value} {C fI cda cc : Addr} {x f g txt qual : Str} {st : Stmt} {dV kV doc pm ct oc : Value} {an od : Option Addr} {osl : Array (Option Value)}
/-- what the head asks of an own error: its class, the def of its __init__, the code, the cell of __class__ -/
structure ErrF (P : Program) (K : PySem.W.Frag) (mg : Str → Option Value) (C cda cc : Addr) : Prop where
  ox : OexC K C
  sub : PySem.W.mroIn K C (.ref C) = some true
  sup : PySem.W.ks_superIn K C C "__init__" = some (some (.builtin "ValueError.__init__"))
  ve : PySem.W.subIn K (.ref C) (.type "ValueError") = some true
  code : ∃ ccl cdd vs ccs file tf, K.lookup cda = some ⟨ccl, cdd, .fields vs, ccs⟩ ∧ vs[2]? = some (.str file tf) ∧ ((P.main.file : Str) == file) = true
  top : (P.main.scope.names.lookup ("super" : Str)).isSome = false
  noSup : mg "super" = none
  cls : (PySem.W.clsIn K C).isSome = true
  thr : PySem.W.nsIn K PySem.cStatics "thirdparty.any" = some none
  hcell : ∃ cl cld csl, K.lookup cc = some ⟨cl, cld, .cell (some (.ref C)), csl⟩
theorem ErrF.te (E : ErrF P K mg C cda cc) : Sup.SupE K C C := ⟨E.ox, E.sub, E.sup, E.ve⟩
theorem ErrF.at1 (E : ErrF P K mg C cda cc) {fd : FuncData} (hf : ∃ oc od osl, K.lookup fI = some ⟨oc, od, .func fd, osl⟩) (hp : ∃ ar : Arg, (fd.params.posonlyargs ++ fd.params.args).head? = some ar ∧ ar.arg = "self") : Sup.SupAt P K mg fI cda cc C fd "self" :=
  ⟨hf, hp, E.code, E.top, E.noSup, Option.isSome_iff_exists.mp E.cls, E.thr⟩
theorem err1 {ar : Arguments} {bd : List Stmt} {nm : List (Str × NameKind)} (E : ErrF P K mg C cda cc) (gl : mg x = some (.ref C)) (iC : PySem.W.findIn K (.ref C) "__init__" = some (some (.ref fI))) (tI : PySem.W.typeIn K (.ref fI) = some (.type "function"))
    (lk : K.lookup fI = some ⟨oc, od, .func (PySem.W.fnX "__init__" qual ar bd (Sup.scOf nm) [("__class__", cc)] dV kV doc pm an (.ref cda) ct), osl⟩) (hcd : PySem.W.codeIn K (.ref cda) qual = true)
    (S : NdefX.NScope ["self", f, "__class__"] ["self", f] ["__class__"] (Sup.scOf nm)) (hsc : Sup.exSc (Sup.scOf nm) = true) (hb : Sup.exB1 txt f bd)
    (hp : ∃ a : Arg, (ar.posonlyargs ++ ar.args).head? = some a ∧ a.arg = "self") (noF : PySem.W.findIn K (.ref C) f = some none)
    (hbd : ∀ us : List Value, us.length = 2 → bindArgs (PySem.W.fnX "__init__" qual ar bd (Sup.scOf nm) [("__class__", cc)] dV kV doc pm an (.ref cda) ct) ⟨us, []⟩ = pure ((["self", f] : List Str).zip us))
    (hd1 : (f == ("__debug__" : Str)) = false := by decide) (hd2 : (f == ("__classdict__" : Str)) = false := by decide) : Sup.Ex1 P K mg x f C :=
  ⟨gl, E.te, fI, _, iC, tI, .all hbd, fun w base CX => Sup.ok_ex1 lk hcd S hsc hb (E.at1 ⟨_, _, _, lk⟩ hp) E.te E.hcell noF hd1 hd2⟩
theorem err2 {ar : Arguments} {bd : List Stmt} {nm : List (Str × NameKind)} (E : ErrF P K mg C cda cc) (gl : mg x = some (.ref C)) (iC : PySem.W.findIn K (.ref C) "__init__" = some (some (.ref fI))) (tI : PySem.W.typeIn K (.ref fI) = some (.type "function"))
    (lk : K.lookup fI = some ⟨oc, od, .func (PySem.W.fnX "__init__" qual ar bd (Sup.scOf nm) [("__class__", cc)] dV kV doc pm an (.ref cda) ct), osl⟩) (hcd : PySem.W.codeIn K (.ref cda) qual = true)
    (S : NdefX.NScope ["self", f, g, "__class__"] ["self", f, g] ["__class__"] (Sup.scOf nm)) (hsc : Sup.exSc (Sup.scOf nm) = true) (hb : Sup.exB2 txt f g bd)
    (hp : ∃ a : Arg, (ar.posonlyargs ++ ar.args).head? = some a ∧ a.arg = "self") (noF : PySem.W.findIn K (.ref C) f = some none) (noG : PySem.W.findIn K (.ref C) g = some none)
    (hbd : ∀ us : List Value, us.length = 3 → bindArgs (PySem.W.fnX "__init__" qual ar bd (Sup.scOf nm) [("__class__", cc)] dV kV doc pm an (.ref cda) ct) ⟨us, []⟩ = pure ((["self", f, g] : List Str).zip us))
    (hd1 : (f == ("__debug__" : Str)) = false := by decide) (hd2 : (f == ("__classdict__" : Str)) = false := by decide) (hd3 : (g == ("__debug__" : Str)) = false := by decide) (hd4 : (g == ("__classdict__" : Str)) = false := by decide) : Sup.Ex2 P K mg x f g C :=
  ⟨gl, E.te, fI, _, iC, tI, .all hbd, fun w base CX => Sup.ok_ex2 lk hcd S hsc hb (E.at1 ⟨_, _, _, lk⟩ hp) E.te E.hcell noF noG hd1 hd2 hd3 hd4⟩
end
end Y

namespace K96
open PySem PySem.Spec PyProof.Rows L2 Y
def top (i : Nat) : Stmt := PySem.Challenge.pw_everystepstands_k96_rows_joined_and_turn.main.body.getD i (.Pass ⟨0, 0, 0, 0⟩)
abbrev sCell : Stmt := top 7
abbrev sDraw : Stmt := top 8
abbrev sSets : Stmt := top 9
abbrev rInit : Stmt := inClass (top 5) 0
abbrev rStart : Stmt := inClass (top 5) 1
abbrev rGoal : Stmt := inClass (top 5) 2
abbrev rSteps : Stmt := inClass (top 5) 3
abbrev rBack : Stmt := inClass (top 5) 4
abbrev rAdd : Stmt := inClass (top 5) 5
structure Gl0 (mg : Str → Option Value) : Prop where
  len : mg "len" = none
  int : mg "int" = none
  tuple : mg "tuple" = none
  range : mg "range" = none
  list : mg "list" = none
  enum : mg "enumerate" = none
section
variable {Pr : Program} {w : World} {K : PySem.W.Frag} {mg : Str → Option Value} {base : Heap}
/-! ### _law_cell -/
def cellV (ns : List Int) (k : Nat) : Int := ns.getD k 0
def pCell : Pm := fun Γ o => ∃ (ns : List Int) (k : Nat), ns.length ≤ 63 ∧ Γ = [.va (.fz (ns.map .int)), .va (.int k)] ∧ o = .ret (.va (.int (cellV ns k)))
theorem scCell : FnScope ["script", "k"] ["script", "k"] (defScope sCell) := ⟨rfl, rfl, rfl, by decide +kernel, rfl, by decide +kernel, by decide +kernel⟩
theorem ok_cell {f : Addr} {fd : FuncData} (F : Fun K "_law_cell" "_law_cell" sCell f fd) (T : Gl0 mg) : FnOk Pr w K mg base (L2N.CX Pr w) 1 f fd ["script", "k"] (mkSp K pCell) := by
  refine fn_sds F scCell (fun Γ o ⟨ns, k, h1, h2, h3⟩ => by rw [h2]; rfl) fun cdv A outer s H E hr H0 Oc Γ o ⟨ns, k, h1, h2, h3⟩ => ?_
  subst h2 h3
  refine ⟨.ret (.va (.int (cellV ns k))), ?_, rfl⟩
  refine d_ifx (et_c cm_lt (vv 1) (e_len T.len (vb 0))) rfl (fun c => d_ret (e_int T.int (ev_ixF (d := .int (cellV ns k)) (vb 0) (vv 1) ?_)) rfl) (fun c => d_ret ev_int ?_)
  · have c := of_decide_eq_true c
    rw [List.length_map] at c
    have hk : k < ns.length := by omega
    have e : ns[k]? = some (cellV ns k) := by unfold cellV; rw [List.getD_eq_getElem?_getD, List.getElem?_eq_getElem hk]; rfl
    exact atI_map e
  · have c := of_decide_eq_false c
    rw [List.length_map] at c
    have hk : ns.length ≤ k := by omega
    unfold cellV
    rw [List.getD_eq_getElem?_getD, List.getElem?_eq_none hk]
    rfl
/-! ### _law_draw -/
def stepA (p : List Int × Int) (b : Int) : List Int × Int := (p.1 ++ [p.2 % b], p.2 / b)
def stepB (p : List Int × Int) (b : Int) : List Int × Int := (p.1 ++ [(p.2 * 48271 + 12345) % 2147483647 / 64 % b], (p.2 * 48271 + 12345) % 2147483647)
def drawV (c : Int) (bs : List Int) : List Int := if 1000000000000000000 ≤ c then (bs.foldl stepA ([], c - 1000000000000000000)).1 else (bs.foldl stepB ([], c % 2147483647)).1
def pDraw : Pm := fun Γ o => ∃ (c : Int) (bs : List Int), bs.length ≤ 1000000 ∧ (∀ b ∈ bs, 0 < b ∧ b < 1073741824) ∧ Γ = [.va (.int c), .br (.lst (bs.map .int))] ∧ o = .ret (.ow (.lst ((drawV c bs).map .int)))
theorem scDraw : FnScope ["cell", "bases", "drawn", "rest", "base", "state"] ["cell", "bases"] (defScope sDraw) := ⟨rfl, rfl, rfl, by decide +kernel, rfl, by decide +kernel, by decide +kernel⟩
theorem lenA : ∀ (bs : List Int) (p : List Int × Int), (bs.foldl stepA p).1.length = p.1.length + bs.length
  | [], _ => rfl
  | b :: bs, p => by
    show (bs.foldl stepA (stepA p b)).1.length = _
    rw [lenA bs]
    simp [stepA]
    omega
theorem lenB : ∀ (bs : List Int) (p : List Int × Int), (bs.foldl stepB p).1.length = p.1.length + bs.length
  | [], _ => rfl
  | b :: bs, p => by
    show (bs.foldl stepB (stepB p b)).1.length = _
    rw [lenB bs]
    simp [stepB]
    omega
theorem drawV_len (c : Int) (bs : List Int) : (drawV c bs).length = bs.length := by
  unfold drawV
  split
  · rw [lenA]; exact Nat.zero_add _
  · rw [lenB]; exact Nat.zero_add _
theorem stB {p : List Int × Int} (h : 0 ≤ p.2 ∧ p.2 < 2147483647) : ∀ (bs : List Int), 0 ≤ (bs.foldl stepB p).2 ∧ (bs.foldl stepB p).2 < 2147483647
  | [] => h
  | b :: bs => stB (p := stepB p b) ⟨Int.emod_nonneg _ (by decide), Int.emod_lt_of_pos _ (by decide)⟩ bs
theorem ok_draw {f : Addr} {fd : FuncData} (F : Fun K "_law_draw" "_law_draw" sDraw f fd) (T : Gl0 mg) : FnOk Pr w K mg base (L2N.CX Pr w) 1 f fd ["cell", "bases"] (mkSp K pDraw) := by
  refine fn_sds F scDraw (fun Γ o ⟨ns, k, _, _, h2, h3⟩ => by rw [h2]; rfl) fun cdv A outer s H E hr H0 Oc Γ o ⟨ci, bs, hl, hb, h2, h3⟩ => ?_
  subst h2 h3
  refine ⟨.ret (.ow (.lst ((drawV ci bs).map .int))), ?_, rfl⟩
  refine d_set 2 scDraw.nd (ev_lst ea_nil rfl (by decide)) ?_
  refine d_set 3 scDraw.nd (e_int T.int (vv 0)) ?_
  refine d_ifx (et_c cm_ge (vv 3) e_1018) rfl (fun c => ?_) (fun c => ?_)
  · refine d_set 3 scDraw.nd (ev_sub (vv 3) e_1018) ?_
    refine d_forP bs .int stepA ([], ci - 1000000000000000000) (fun p => [.va (.int ci), .br (.lst (bs.map .int)), .ow (.lst (p.1.map .int)), .va (.int p.2), .no, .no]) (passes_of rfl) rfl (ei_lst (vr 1) rfl) ?_ ?_ ?_
    · exact .eq (.eq (.eq (.eq (.eq (.eq .nil)))))
    · intro p b pre post hx hp
      have hbb := hb b (by rw [hx]; simp)
      refine ⟨_, _, t_name 4 scDraw.nd, d_app 2 (ev_mod (vv 3) (vv 4) hbb.1) ?_ (d_set 3 scDraw.nd (ev_fdiv (vv 3) (vv 4) hbb) sds_nil), ?_⟩
      · have z := congrArg List.length hx
        rw [List.length_append, List.length_cons] at z
        rw [List.length_map, hp, lenA]
        show 0 + _ ≤ _
        omega
      · exact .eq (.eq (.eqc (lst1 _ _ _) (.eq (.no (.eq .nil)))))
    · exact d_retV 2 (by unfold drawV; rw [if_pos (of_decide_eq_true c)])
  · refine d_set 5 scDraw.nd (ev_mod (vv 3) ev_int (by decide)) ?_
    refine d_forP bs .int stepB ([], ci % 2147483647) (fun p => [.va (.int ci), .br (.lst (bs.map .int)), .ow (.lst (p.1.map .int)), .va (.int ci), .no, .va (.int p.2)]) (passes_of rfl) rfl (ei_lst (vr 1) rfl) ?_ ?_ ?_
    · exact .eq (.eq (.eq (.eq (.eq (.eq .nil)))))
    · intro p b pre post hx hp
      have hbb := hb b (by rw [hx]; simp)
      have hs : 0 ≤ p.2 ∧ p.2 < 2147483647 := by
        rw [hp]
        exact stB ⟨Int.emod_nonneg _ (by decide), Int.emod_lt_of_pos _ (by decide)⟩ pre
      refine ⟨_, _, t_name 4 scDraw.nd, d_set 5 scDraw.nd (ev_mod (ev_add (ev_mul (vv 5) ev_int (.inl ⟨by omega, by omega⟩)) ev_int) ev_int (by decide)) (d_app 2 (ev_mod (ev_fdiv (vv 5) ev_int ⟨by decide, by decide⟩) (vv 4) hbb.1) ?_ sds_nil), ?_⟩
      · have z := congrArg List.length hx
        rw [List.length_append, List.length_cons] at z
        rw [List.length_map, hp, lenB]
        show 0 + _ ≤ _
        omega
      · exact .eq (.eq (.eqc (lst1 _ _ _) (.eq (.no (.eq .nil)))))
    · exact d_retV 2 (by unfold drawV; rw [if_neg (of_decide_eq_false c)])
/-! ### _law_settings -/
def valsV (c : Int) (n : Nat) : List Int := (drawV c (List.replicate n 9)).map (· - 2)
def setsV (c : Int) (count size : Nat) : List (List Int) := (List.range count).map fun k => ((valsV c (count * size)).take ((k + 1) * size)).drop (k * size)
def encS (xs : List Int) : D := .tup (xs.map .int)
def rowG (ci : Int) (count size : Nat) (k : Nat) : D := encS (((valsV ci (count * size)).take ((k + 1) * size)).drop (k * size))
def pSets : Pm := fun Γ o => ∃ (c : Int) (count size : Nat), count ≤ 1000 ∧ size ≤ 1000 ∧ Γ = [.va (.int c), .va (.int count), .va (.int size)] ∧ o = .ret (.ow (.lst ((setsV c count size).map encS)))
theorem scSets : FnScope ["cell", "count", "size", "values", "digit", "k"] ["cell", "count", "size"] (defScope sSets) := ⟨rfl, rfl, rfl, by decide +kernel, rfl, by decide +kernel, by decide +kernel⟩
theorem ok_sets {f : Addr} {fd : FuncData} (F : Fun K "_law_settings" "_law_settings" sSets f fd) (T : Gl0 mg) (G : FnG Pr w K mg base "_law_draw" 1 ["cell", "bases"] pDraw) : FnOk Pr w K mg base (L2N.CX Pr w) 2 f fd ["cell", "count", "size"] (mkSp K pSets) := by
  refine fn_sds F scSets (fun Γ o ⟨ns, k, _, _, _, h2, h3⟩ => by rw [h2]; rfl) fun cdv A outer s H E hr H0 Oc Γ o ⟨ci, count, size, hl, hz, h2, h3⟩ => ?_
  subst h2 h3
  have hcs : count * size ≤ 1000000 := Nat.mul_le_mul hl hz
  refine ⟨.ret (.ow (.lst ((setsV ci count size).map encS))), ?_, rfl⟩
  refine d_set 3 scSets.nd (Ev.aso (d' := .lst ((valsV ci (count * size)).map .int)) (e_lc (own := [("digit", 4)]) (drawV ci (List.replicate (count * size) 9)) .int (fun d => .int (d - 2)) (fun x => [.va (.int ci), .va (.int count), .va (.int size), .no, .va (.int x), .no]) rfl scSets.nd (blkOk_by (by rfl))
    (ei_lst (Ev.fz (ev_call G hr (ea_cons (vv 0) (ea_cons (Ev.aso (ev_repL (ev_lst (ea_cons ev_int ea_nil) rfl (by decide)).r (ev_mul (vv 1) (vv 2) (.inl ⟨by omega, by omega⟩)) ?_ ?_ ?_) ?_) ea_nil)) ⟨ci, List.replicate (count * size) 9, ?_, ?_, rfl, rfl⟩)) rfl) ?_ (fun x hx _ _ _ _ _ _ _ => tw_name 4 scSets.nd) ?_ (fun x hx _ _ _ _ _ _ _ => ev_sub (vv 4) ev_int)) (by unfold valsV; rw [List.map_map]; rfl)) ?_
  · exact Int.ofNat_le.mpr hcs
  · exact Int.le_trans (by decide) (Int.ofNat_nonneg (count * size))
  · show 1 * _ ≤ _
    rw [show ((count : Int) * (size : Int)) = ((count * size : Nat) : Int) from rfl, Int.toNat_natCast]
    omega
  · rw [show ((count : Int) * (size : Int)) = ((count * size : Nat) : Int) from rfl, Int.toNat_natCast, rep_ints]
  · rw [List.length_replicate]
    exact hcs
  · intro b hb
    rw [List.eq_of_mem_replicate hb]
    decide
  · rw [drawV_len, List.length_replicate]
    exact hcs
  · exact fun x _ => ⟨rfl, .eq (.eq (.eq (.no (.eq (.eq .nil)))))⟩
  · have e0 : (setsV ci count size).map encS = (List.range count).map (rowG ci count size) := by
      unfold setsV
      rw [List.map_map]
      rfl
    rw [e0]
    refine d_retO ?_ rfl
    refine e_lc (own := [("k", 5)]) (List.range count) (fun k : Nat => .int k) (rowG ci count size) (fun k => [.va (.int ci), .va (.int count), .va (.int size), .br (.lst ((valsV ci (count * size)).map .int)), .no, .va (.int k)]) rfl scSets.nd (blkOk_by (by rfl))
      (i_rng T.range (vv 1) (by omega)) (by rw [List.length_range]; omega) (fun x hx _ _ _ _ _ _ _ => tw_name 5 scSets.nd) ?_ (fun x hx _ _ _ _ _ _ _ => Ev.as (e_tupL T.tuple (ev_slL (vb 3) (eo_at (ev_mul (vv 5) (vv 2) ?_)) (eo_at (ev_mul (ev_add (vv 5) ev_int) (vv 2) ?_))).r) ?_)
    · exact fun x _ => ⟨rfl, .eq (.eq (.eq (.eq (.eq (.no .nil)))))⟩
    · exact .inr ⟨by omega, by omega⟩
    · exact .inr ⟨by omega, by omega⟩
    · have e1 : ((x : Int) * (size : Int)) = ((x * size : Nat) : Int) := rfl
      have e2 : (((x : Int) + 1) * (size : Int)) = (((x + 1) * size : Nat) : Int) := rfl
      rw [e1, e2, cutD_map, cutD_nat]
      rfl
/-! ### Row -/
structure RowT (K : PySem.W.Frag) (C : Addr) : Prop where
  cl : Cls K C
  noS : NoAttr K C "settings"
def badAt (n : Nat) : Nat → List (List Int) → Option Nat
  | _, [] => none
  | i, r :: rs => if r.length ≠ n then some i else badAt n (i + 1) rs
def rowErr : List (List Int) → Option Int
  | [] => some (-1)
  | r :: rs => (badAt r.length 0 (r :: rs)).map fun i : Nat => (i : Int)
def rowO (C CN : Addr) (rows : List (List Int)) : Out := match rowErr rows with
  | none => .ret (.ow (.obj C ["settings"] [.lst (rows.map encS)]))
  | some i => .exc CN ["index"] [.int i] none
def pInit (C CN : Addr) : Pm := fun Γ o => ∃ rows, rows.length ≤ 1000000 ∧ Γ = [.br (.lst (rows.map encS))] ∧ o = rowO C CN rows
theorem scInit : FnScope ["self", "settings", "index", "setting"] ["self", "settings"] (defScope rInit) := ⟨rfl, rfl, rfl, by decide +kernel, rfl, by decide +kernel, by decide +kernel⟩
def stepR (CN : Addr) (n : Nat) : Unit → Nat × List Int → Except Out Unit := fun _ p => if p.2.length ≠ n then .error (.exc CN ["index"] [.int (p.1 : Int)] none) else .ok ()
theorem runR (CN : Addr) (n : Nat) : ∀ (i : Nat) (rs : List (List Int)), runE (stepR CN n) () (enumF i rs) = match badAt n i rs with | none => .ok () | some j => .error (.exc CN ["index"] [.int (j : Int)] none)
  | _, [] => rfl
  | i, r :: rs => by
    have ih := runR CN n (i + 1) rs
    by_cases h : r.length = n
    · simp [runE, enumF, stepR, badAt, h] at ih ⊢
      exact ih
    · simp [runE, enumF, stepR, badAt, h]
theorem ok_init {f C CN : Addr} {fd : FuncData} (F : Fun K "__init__" "Row.__init__" rInit f fd) (T : Gl0 mg) (R : RowT K C) (N : Sup.Ex1 Pr K mg "NotARow" "index" CN) : FnOk Pr w K mg base (L2N.CX Pr w) 3 f fd ["self", "settings"] (mkSpI K C (pInit C CN)) := by
  refine init_sds F scInit (fun Γ o ⟨ns, _, h2, h3⟩ => by rw [h2]; rfl) fun cdv A outer s H E hr H0 Oc Γ o a ⟨rows, hl, h2, h3⟩ => ?_
  subst h2
  cases rows with
  | nil =>
    subst h3
    refine ⟨.exc CN ["index"] [.int (-1)] none, ?_, none, rfl⟩
    exact Sds.low (d_ifx (et_not (t_seq (vb 1))) rfl (fun c => sds_raise1 rfl (L2N.takes_of rfl rfl rfl rfl) N (hr.mono (by decide)) rfl (ev_neg ev_int)) (by intro c; simp at c))
  | cons r rs =>
    have key : ∀ (out : Out), (match badAt r.length 0 (r :: rs) with | none => out = .nx [.ow (.slf a C ["settings"] [.lst ((r :: rs).map encS)]), .br (.lst ((r :: rs).map encS)), .no, .no] | some j => out = .exc CN ["index"] [.int (j : Int)] none) →
        Sds (cxOf (L2N.CX Pr w) Pr w K mg base ["self", "settings", "index", "setting"] "Row.__init__" (defScope rInit) f cdv A outer s H E) (wx E) H0 Oc [.ow (.slf a C [] []), .br (.lst ((r :: rs).map encS)), .no, .no] (defBody rInit) out := fun out ho => by
      refine sds_ifx (et_not (t_seq (vb 1))) (by intro c; simp at c) (fun c => ?_)
      refine d_for (enumF 0 (r :: rs)) (fun p => .tup [.int (p.1 : Int), encS p.2]) (stepR CN r.length) () (fun _ => [.ow (.slf a C [] []), .br (.lst ((r :: rs).map encS)), .no, .no]) (passes_of rfl) rfl (i_enum encS _ T.enum (vr 1)) Sub.refl ?_ ?_
      · intro st p pre post hx hs
        by_cases c : p.2.length = r.length
        · refine ⟨_, .nx _, t_two 2 3 rfl scInit.nd, sds_ifx (et_c cm_neI (e_len T.len (vb 3)) (e_len T.len (ev_ixL (d := encS r) (vb 1) ev_int (L2.atI_nat (j := 0) rfl)).r)) (fun d => ?_) (fun d => sds_nil), ?_⟩
          · rw [List.length_map, List.length_map, c] at d
            simp at d
          · rw [show stepR CN r.length st p = .ok () from if_neg (by simpa using c)]
            exact .inl ⟨_, rfl, .eq (.eq (.no (.no .nil)))⟩
        · refine ⟨_, .exc CN ["index"] [.int (p.1 : Int)] none, t_two 2 3 rfl scInit.nd, sds_ifx (et_c cm_neI (e_len T.len (vb 3)) (e_len T.len (ev_ixL (d := encS r) (vb 1) ev_int (L2.atI_nat (j := 0) rfl)).r)) (fun d => ⟨Sds.low (sds_raise1 rfl (L2N.takes_of rfl rfl rfl rfl) N (hr.mono (by decide)) rfl (vv 2)), rfl⟩) (fun d => ?_), ?_⟩
          · rw [List.length_map, List.length_map] at d
            simp at d
            omega
          · rw [show stepR CN r.length st p = .error _ from if_pos c]
            exact ⟨rfl, .inr (.inl ⟨_, _, _, _, rfl⟩)⟩
      · rw [runR]
        cases hB : badAt r.length 0 (r :: rs) with
        | none =>
          rw [hB] at ho
          subst ho
          exact d_fld 0 R.cl R.noS (Ev.fz (e_list T.list (vb 1))) sds_nil
        | some j =>
          rw [hB] at ho
          exact ho
    cases hB : badAt r.length 0 (r :: rs) with
    | none =>
      refine ⟨.nx [.ow (.slf a C ["settings"] [.lst ((r :: rs).map encS)]), .br (.lst ((r :: rs).map encS)), .no, .no], key _ (by rw [hB]), ["settings"], [.lst ((r :: rs).map encS)], rfl, ?_⟩
      rw [h3]
      simp [rowO, rowErr, hB]
    | some j =>
      refine ⟨.exc CN ["index"] [.int (j : Int)] none, key _ (by rw [hB]), none, ?_⟩
      rw [h3]
      simp [rowO, rowErr, hB]
def rowD (C : Addr) (rows : List (List Int)) : D := .obj C ["settings"] [.lst (rows.map encS)]
theorem okS (xs : List Int) : okN 1 (encS xs) := okN_tup (okN_map fun _ => okN_int)
theorem eqS' : EqC encS := eqC_tup eqC_int
/-- a slot that a callee may have -/
def One (s0 : Sl) (d : D) : Prop := s0.dat = some d
def pStart (C : Addr) : Pm := fun Γ o => ∃ s0 rows r, Γ = [s0] ∧ One s0 (rowD C rows) ∧ rows[0]? = some r ∧ o = .ret (.va (encS r))
def pGoal (C : Addr) : Pm := fun Γ o => ∃ s0 pre r, Γ = [s0] ∧ One s0 (rowD C (pre ++ [r])) ∧ o = .ret (.va (encS r))
def pSteps (C : Addr) : Pm := fun Γ o => ∃ s0 rows, Γ = [s0] ∧ One s0 (rowD C rows) ∧ o = .ret (.va (.int (rows.length - 1)))
def pBack (C : Addr) : Pm := fun Γ o => ∃ s0 rows, Γ = [s0] ∧ One s0 (rowD C rows) ∧ rows.length ≤ 1000000 ∧ rowErr rows.reverse = none ∧ o = .ret (.ow (rowD C rows.reverse))
def pAdd (C CA : Addr) : Pm := fun Γ o => ∃ s0 s1 pre ra rb post, Γ = [s0, s1] ∧ One s0 (rowD C (pre ++ [ra])) ∧ One s1 (rowD C (rb :: post)) ∧ pre.length + post.length + 2 ≤ 1000000 ∧
  (rb = ra → rowErr (pre ++ [ra] ++ post) = none) ∧ o = if rb = ra then .ret (.ow (rowD C (pre ++ [ra] ++ post))) else .exc CA ["second", "first"] [encS rb, encS ra] none
theorem sc1 {st : Stmt} (h : FnScope ["self"] ["self"] (defScope st)) : FnScope ["self"] ["self"] (defScope st) := h
theorem scStart : FnScope ["self"] ["self"] (defScope rStart) := ⟨rfl, rfl, rfl, by decide +kernel, rfl, by decide +kernel, by decide +kernel⟩
theorem scGoal : FnScope ["self"] ["self"] (defScope rGoal) := ⟨rfl, rfl, rfl, by decide +kernel, rfl, by decide +kernel, by decide +kernel⟩
theorem scSteps : FnScope ["self"] ["self"] (defScope rSteps) := ⟨rfl, rfl, rfl, by decide +kernel, rfl, by decide +kernel, by decide +kernel⟩
theorem scBack : FnScope ["self"] ["self"] (defScope rBack) := ⟨rfl, rfl, rfl, by decide +kernel, rfl, by decide +kernel, by decide +kernel⟩
theorem scAdd : FnScope ["self", "other"] ["self", "other"] (defScope rAdd) := ⟨rfl, rfl, rfl, by decide +kernel, rfl, by decide +kernel, by decide +kernel⟩
theorem ok_start {f C : Addr} {fd : FuncData} (F : Fun K "start" "Row.start" rStart f fd) (R : RowT K C) : FnOk Pr w K mg base (L2N.CX Pr w) 1 f fd ["self"] (mkSp K (pStart C)) := by
  refine fn_sds F scStart (fun Γ o ⟨_, _, _, h2, _⟩ => by rw [h2]; rfl) fun cdv A outer s H E hr H0 Oc Γ o ⟨s0, rows, r, h3, h1, h2, h4⟩ => ?_
  subst h3 h4
  exact ⟨.ret (.va (encS r)), d_ret (ev_ixL (ev_fld R.cl R.noS (vb 0 rfl h1) rfl).r ev_int (L2.atI_nat (j := 0) (by rw [List.getElem?_map, h2]; rfl))) rfl, rfl⟩
theorem ok_goal {f C : Addr} {fd : FuncData} (F : Fun K "goal" "Row.goal" rGoal f fd) (R : RowT K C) : FnOk Pr w K mg base (L2N.CX Pr w) 1 f fd ["self"] (mkSp K (pGoal C)) := by
  refine fn_sds F scGoal (fun Γ o ⟨_, _, _, h2, _⟩ => by rw [h2]; rfl) fun cdv A outer s H E hr H0 Oc Γ o ⟨s0, pre, r, h3, h1, h4⟩ => ?_
  subst h3 h4
  exact ⟨.ret (.va (encS r)), d_ret (ev_ixL (ev_fld R.cl R.noS (vb 0 rfl h1) rfl).r (ev_neg ev_int) (by rw [List.map_append]; exact L2.atI_last _ _)) rfl, rfl⟩
theorem ok_steps {f C : Addr} {fd : FuncData} (F : Fun K "steps" "Row.steps" rSteps f fd) (T : Gl0 mg) (R : RowT K C) : FnOk Pr w K mg base (L2N.CX Pr w) 1 f fd ["self"] (mkSp K (pSteps C)) := by
  refine fn_sds F scSteps (fun Γ o ⟨_, _, h2, _⟩ => by rw [h2]; rfl) fun cdv A outer s H E hr H0 Oc Γ o ⟨s0, rows, h3, h1, h4⟩ => ?_
  subst h3 h4
  exact ⟨.ret (.va (.int (rows.length - 1))), d_ret (ev_sub (e_len T.len (ev_fld R.cl R.noS (vb 0 rfl h1) rfl).r) ev_int) (by rw [List.length_map]), rfl⟩
theorem ok_back {f C CN : Addr} {fd : FuncData} (F : Fun K "back" "Row.back" rBack f fd) (R : RowT K C) (M : ClG Pr w K mg base "Row" C 3 ["self", "settings"] (pInit C CN)) : FnOk Pr w K mg base (L2N.CX Pr w) 5 f fd ["self"] (mkSp K (pBack C)) := by
  refine fn_sds F scBack (fun Γ o ⟨_, _, h2, _⟩ => by rw [h2]; rfl) fun cdv A outer s H E hr H0 Oc Γ o ⟨s0, rows, h3, h1, hl, he, h4⟩ => ?_
  subst h3 h4
  refine ⟨.ret (.ow (rowD C rows.reverse)), d_retO (d := rowD C rows.reverse) (ev_make M hr (ea_cons (Ev.aso (ev_revL (ev_fld R.cl R.noS (vb 0 rfl h1) rfl).r) ?_) ea_nil) ⟨rows.reverse, ?_, rfl, ?_⟩) rfl, rfl⟩
  · rw [← List.map_reverse]
  · rw [List.length_reverse]; exact hl
  · unfold rowO
    rw [he]
    rfl
theorem ok_add {f C CN CA : Addr} {fd : FuncData} (F : Fun K "__add__" "Row.__add__" rAdd f fd) (R : RowT K C) (N2 : Sup.Ex2 Pr K mg "RowsApart" "first" "second" CA) (M : ClG Pr w K mg base "Row" C 3 ["self", "settings"] (pInit C CN)) : FnOk Pr w K mg base (L2N.CX Pr w) 5 f fd ["self", "other"] (mkSp K (pAdd C CA)) := by
  refine fn_sds F scAdd (fun Γ o ⟨_, _, _, _, _, _, h2, _⟩ => by rw [h2]; rfl) fun cdv A outer s H E hr H0 Oc Γ o ⟨s0, s1, pre, ra, rb, post, h3, h1, h2, hl, he, h4⟩ => ?_
  subst h3
  have ea : ∀ {Γ : List Sl}, L2.atI ((pre ++ [ra]).map encS) (-1) = some (encS ra) := fun {Γ} => by rw [List.map_append]; exact L2.atI_last _ _
  have eb : L2.atI ((rb :: post).map encS) 0 = some (encS rb) := L2.atI_nat (j := 0) rfl
  by_cases c : rb = ra
  · rw [if_pos c] at h4
    subst h4
    refine ⟨.ret (.ow (rowD C (pre ++ [ra] ++ post))), d_ifx (et_c (c_ne (hu64 hr) eqS' 1 okS (by decide) rb ra) (ev_ixL (ev_fld R.cl R.noS (vb 1 rfl h2) rfl).r ev_int eb).r (ev_ixL (ev_fld R.cl R.noS (vb 0 rfl h1) rfl).r (ev_neg ev_int) (ea (Γ := []))).r) rfl (fun d => ?_) (fun _ => ?_), rfl⟩
    · simp [c] at d
    · refine d_retO (d := rowD C (pre ++ [ra] ++ post)) (ev_make M hr (ea_cons (Ev.aso (ev_catL (ev_fld R.cl R.noS (vb 0 rfl h1) rfl).r (ev_slL (ev_fld R.cl R.noS (vb 1 rfl h2) rfl).r (eo_at ev_int) eo_no).r ?_) ?_) ea_nil) ⟨pre ++ [ra] ++ post, ?_, rfl, ?_⟩) rfl
      · rw [List.length_map, cutD_map, List.length_map, show Y.cutD (rb :: post) (some 1) none = post from cutD_from (rb :: post) 1]
        simp
        omega
      · rw [cutD_map, show Y.cutD (rb :: post) (some 1) none = post from cutD_from (rb :: post) 1, ← List.map_append]
      · simp
        omega
      · unfold rowO
        rw [he c]
        rfl
  · rw [if_neg c] at h4
    subst h4
    refine ⟨.exc CA ["second", "first"] [encS rb, encS ra] none, d_ifx (et_c (c_ne (hu64 hr) eqS' 1 okS (by decide) rb ra) (ev_ixL (ev_fld R.cl R.noS (vb 1 rfl h2) rfl).r ev_int eb).r (ev_ixL (ev_fld R.cl R.noS (vb 0 rfl h1) rfl).r (ev_neg ev_int) (ea (Γ := []))).r) rfl (fun d => ?_) (fun d => ?_), none, rfl⟩
    · exact Sds.low (sds_raise2 rfl (L2N.takes_of rfl rfl rfl rfl) N2 (hr.mono (by decide)) rfl (ev_ixL (ev_fld R.cl R.noS (vb 0 rfl h1) rfl).r (ev_neg ev_int) (ea (Γ := []))) (ev_ixL (ev_fld R.cl R.noS (vb 1 rfl h2) rfl).r ev_int eb))
    · simp [c] at d
end
end K96

namespace K96
open PySem PySem.Spec PyProof.Rows L2 Y
abbrev sEqual : Stmt := top 10
abbrev sStands : Stmt := top 11
abbrev sRefused : Stmt := top 12
abbrev sSum : Stmt := top 13
structure Gl1 (mg : Str → Option Value) : Prop extends Gl0 mg where
  isi : mg "isinstance" = none
  bool : mg "bool" = none
section
variable {Pr : Program} {w : World} {K : PySem.W.Frag} {mg : Str → Option Value} {base : Heap}
theorem bt_list : bootBuiltins ("list" : Str) = some (.type "list") := by decide +kernel
theorem bt_tuple : bootBuiltins ("tuple" : Str) = some (.type "tuple") := by decide +kernel
theorem bt_int : bootBuiltins ("int" : Str) = some (.type "int") := by decide +kernel
theorem bt_bool : bootBuiltins ("bool" : Str) = some (.type "bool") := by decide +kernel
theorem ki_ll : PySem.W.kitOne [] (.type "list") (.type "list") = some true := by decide +kernel
theorem ki_tt : PySem.W.kitOne [] (.type "tuple") (.type "tuple") = some true := by decide +kernel
theorem ki_ii : PySem.W.kitOne [] (.type "int") (.type "int") = some true := by decide +kernel
theorem ki_ib : PySem.W.kitOne [] (.type "int") (.type "bool") = some false := by decide +kernel
def pEqual : Pm := fun Γ o => ∃ (s0 s1 : Sl) (a : List (List Int)), Γ = [s0, s1] ∧ One s0 (.lst (a.map encS)) ∧ One s1 (.lst (a.map encS)) ∧ a.length ≤ 1000000 ∧ (∀ r ∈ a, r.length ≤ 1000000) ∧ stab [s0, s1] = true ∧ o = .ret (.va (.bl true))
theorem scEqual : FnScope ["actual", "expected", "k", "j", "value"] ["actual", "expected"] (defScope sEqual) := ⟨rfl, rfl, rfl, by decide +kernel, rfl, by decide +kernel, by decide +kernel⟩
theorem rng_lt {n k : Nat} {pre post : List Nat} (h : List.range n = pre ++ k :: post) : k < n := by
  have : k ∈ List.range n := by rw [h]; simp
  exact List.mem_range.mp this
theorem ok_equal {f : Addr} {fd : FuncData} (F : Fun K "_law_equal" "_law_equal" sEqual f fd) (T : Gl1 mg) : FnOk Pr w K mg base (L2N.CX Pr w) 1 f fd ["actual", "expected"] (mkSp K pEqual) := by
  refine fn_sds F scEqual (fun Γ o ⟨_, _, _, h2, _⟩ => by rw [h2]; rfl) fun cdv A outer s H E hr H0 Oc Γ o ⟨s0, s1, a, h3, h1, h2, hl, hr2, hst, h4⟩ => ?_
  subst h3 h4
  refine ⟨.ret (.va (.bl true)), ?_, rfl⟩
  refine d_ifx (et_w (ew_or (et_not (et_val (e_isT T.isi T.list (vb 0 rfl h1) bt_list rfl ki_ll))) fun _ => ew_or1 (et_c cm_neI (e_len T.len (vb 0 rfl h1)) (e_len T.len (vb 1 rfl h2))))) rfl (by intro c; simp at c) fun _ => ?_
  refine d_forP (List.range (a.map encS).length) (fun k : Nat => .int k) (fun (_ : Unit) _ => ()) () (fun _ => [s0, s1, .no, .no, .no]) (passes_of rfl) rfl (i_rng T.range (e_len T.len (vb 1 rfl h2)) (by rw [List.length_map]; omega)) (.eq (.eq (.eq (.eq (.eq .nil))))) ?_ ?_
  · intro st k pre post hx _
    have hk := rng_lt hx
    rw [List.length_map] at hk
    have e1 : a[k]? = some a[k] := List.getElem?_eq_getElem hk
    have hrow := hr2 a[k] (List.getElem_mem hk)
    generalize a[k] = r at e1 hrow
    refine ⟨_, [s0, s1, .va (.int k), .no, .no], t_name 2 scEqual.nd, sds_ifx (et_w (ew_or (et_not (et_val (e_isT T.isi T.tuple (ev_ixL (d := encS r) (vb 0 rfl h1) (vv 2) (atI_map e1)).r bt_tuple rfl ki_tt))) fun _ => ew_or1 (et_c cm_neI (e_len T.len (ev_ixL (d := encS r) (vb 0 rfl h1) (vv 2) (atI_map e1)).r) (e_len T.len (ev_ixL (d := encS r) (vb 1 rfl h2) (vv 2) (atI_map e1)).r)))) (by intro c; simp at c) fun _ => ?_, .eq (.eq (.no (.no (.no .nil))))⟩
    refine d_forP (List.range (r.map D.int).length) (fun k : Nat => .int k) (fun (_ : Unit) _ => ()) () (fun _ => [s0, s1, .va (.int k), .no, .no]) (passes_of rfl) rfl (i_rng T.range (e_len T.len (ev_ixL (d := encS r) (vb 1 rfl h2) (vv 2) (atI_map e1)).r) (by rw [List.length_map]; omega)) (.eq (.eq (.eq (.eq (.eq .nil))))) ?_ sds_nil
    intro st j pre post hx _
    have hj := rng_lt hx
    rw [List.length_map] at hj
    have e2 : r[j]? = some r[j] := List.getElem?_eq_getElem hj
    generalize r[j] = v at e2
    refine ⟨_, [s0, s1, .va (.int k), .va (.int j), .va (.int v)], t_name 3 scEqual.nd, d_set 4 scEqual.nd (ev_ixT (d := .int v) (ev_ixL (d := encS r) (vb 0 rfl h1) (vv 2) (atI_map e1)).r (vv 3) (atI_map e2)) (sds_ifx (et_w (ew_or (et_not (et_val (e_isT T.isi T.int (vb 4) bt_int rfl ki_ii))) fun _ => ew_or (et_val (e_isT T.isi T.bool (vb 4) bt_bool rfl ki_ib)) fun _ => ew_or1 (et_c cm_neI (vv 4) (ev_ixT (d := .int v) (ev_ixL (d := encS r) (vb 1 rfl h2) (vv 2) (atI_map e1)).r (vv 3) (atI_map e2))))) (by intro c; simp at c) fun _ => sds_nil), .eq (.eq (.eq (.no (.no .nil))))⟩
  · exact d_ret ev_bl rfl
/-! ### _law_stands -/
structure RowC (Pr : Program) (w : World) (K : PySem.W.Frag) (mg : Str → Option Value) (base : Heap) (C CN CA : Addr) : Prop extends RowT K C where
  gl : mg "Row" = some (.ref C)
  isc : IsC K C
  sf : PySem.W.selfFirst K C = true
  start : PrG Pr w K mg base C "start" 1 ["self"] (pStart C)
  goal : PrG Pr w K mg base C "goal" 1 ["self"] (pGoal C)
  steps : PrG Pr w K mg base C "steps" 1 ["self"] (pSteps C)
  back : MtG Pr w K mg base C "back" 5 ["self"] (pBack C)
  add : MtG Pr w K mg base C "__add__" 5 ["self", "other"] (pAdd C CA)
  mak : ClG Pr w K mg base "Row" C 3 ["self", "settings"] (pInit C CN)
  iter : ∃ ad, Own.IterAt K mg C ad "settings"
theorem kit_self {K : PySem.W.Frag} {C : Addr} : PySem.W.kitOne K (.ref C) (.ref C) = some true := by
  unfold PySem.W.kitOne
  rw [if_pos (by simp)]
def pStands (C : Addr) : Pm := fun Γ o => ∃ (s0 s1 : Sl) (a : List (List Int)), Γ = [s0, s1] ∧ One s0 (rowD C a) ∧ One s1 (.lst (a.map encS)) ∧ a ≠ [] ∧ a.length ≤ 1000000 ∧ (∀ r ∈ a, r.length ≤ 1000000) ∧ stab [s0, s1] = true ∧ o = .ret (.va (.bl true))
theorem scStands : FnScope ["row", "settings", "steps", "setting"] ["row", "settings"] (defScope sStands) := ⟨rfl, rfl, rfl, by decide +kernel, rfl, by decide +kernel, by decide +kernel⟩
theorem ok_stands {f C CN CA : Addr} {fd : FuncData} (F : Fun K "_law_stands" "_law_stands" sStands f fd) (T : Gl1 mg) (R : RowC Pr w K mg base C CN CA) (G : FnG Pr w K mg base "_law_equal" 1 ["actual", "expected"] pEqual) : FnOk Pr w K mg base (L2N.CX Pr w) 4 f fd ["row", "settings"] (mkSp K (pStands C)) := by
  refine fn_sds F scStands (fun Γ o ⟨_, _, _, h2, _⟩ => by rw [h2]; rfl) fun cdv A outer s H E hr H0 Oc Γ o ⟨s0, s1, a, h3, h1, h2, hne, hl, hr2, hst, h4⟩ => ?_
  subst h3 h4
  obtain ⟨ad, it⟩ := R.iter
  have hr1 := hr.mono (show 1 ≤ 3 by decide)
  have hrr2 := hr.mono (show 2 ≤ 3 by decide)
  -- both ends
  obtain ⟨r0, tl, e0⟩ : ∃ r0 tl, a = r0 :: tl := by
    cases a with
    | nil => exact absurd rfl hne
    | cons r0 tl => exact ⟨r0, tl, rfl⟩
  obtain ⟨pre, rl, e1⟩ : ∃ pre rl, a = pre ++ [rl] := ⟨a.dropLast, a.getLast hne, (List.dropLast_concat_getLast hne).symm⟩
  have m0 : r0 ∈ a := by rw [e0]; simp
  have ml : rl ∈ a := by rw [e1]; simp
  have a0 : a[0]? = some r0 := by rw [e0]; rfl
  have x0 : L2.atI (a.map encS) 0 = some (encS r0) := L2.atI_nat (j := 0) (by rw [List.getElem?_map, a0]; rfl)
  have x1 : L2.atI (a.map encS) (-1) = some (encS rl) := by rw [e1, List.map_append]; exact L2.atI_last _ _
  refine ⟨.ret (.va (.bl true)), ?_, rfl⟩
  refine d_ifx (et_w (ew_or (et_not (et_val (e_isi T.isi (vb 0 rfl h1) (ev_cls rfl R.gl) (.own C) rfl kit_self (by rintro C' h; cases h; exact R.isc)))) fun _ => ew_or1 (et_not (et_val (ev_call G hr1 (ea_cons (ev_fld R.cl R.noS (vb 0 rfl h1) rfl) (ea_cons (vb 1 rfl h2) ea_nil)) ⟨_, _, a, rfl, rfl, rfl, hl, hr2, rfl, rfl⟩))))) rfl (by intro c; simp at c) fun _ => ?_
  refine d_ifx (et_not (et_val (ev_call G hr1 (ea_cons (ev_lst (ea_cons (ev_prop R.cl R.start hrr2 (vb 0 rfl h1) rfl ⟨_, a, r0, rfl, rfl, a0, rfl⟩) (ea_cons (ev_prop R.cl R.goal hrr2 (vb 0 rfl h1) rfl ⟨_, pre, rl, rfl, (congrArg (fun z => some (rowD C z)) e1), rfl⟩) ea_nil)) rfl (by show 2 ≤ _; decide))
    (ea_cons (ev_lst (ea_cons (ev_ixL (vb 1 rfl h2) ev_int x0) (ea_cons (ev_ixL (vb 1 rfl h2) (ev_neg ev_int) x1) ea_nil)) rfl (by show 2 ≤ _; decide)) ea_nil)) ⟨_, _, [r0, rl], rfl, rfl, rfl, by show 2 ≤ _; decide, ?_, rfl, rfl⟩))) rfl (by intro c; simp at c) fun _ => ?_
  · intro r hr3
    simp at hr3
    rcases hr3 with rfl | rfl
    · exact hr2 _ m0
    · exact hr2 _ ml
  refine d_set 2 scStands.nd (ev_prop R.cl R.steps hrr2 (vb 0 rfl h1) rfl ⟨_, a, rfl, rfl, rfl⟩) ?_
  refine d_ifx (et_w (ew_or (et_not (et_val (e_isT T.isi T.int (vb 2) bt_int rfl ki_ii))) fun _ => ew_or (et_val (e_isT T.isi T.bool (vb 2) bt_bool rfl ki_ib)) fun _ => ew_or1 (et_c cm_neI (vv 2) (ev_sub (e_len T.len (vb 1 rfl h2)) ev_int)))) rfl (by intro c; simp at c) fun _ => ?_
  refine d_ret (ev_call G hr1 (ea_cons (e_lc (own := [("setting", 3)]) a encS encS (fun x => [s0.arg, s1.arg, .va (.int (a.length - 1)), .va (encS x)]) rfl scStands.nd (blkOk_by (by rfl)) (ei_own it hrr2 (vb 0 rfl h1) rfl) hl (fun x hx _ _ _ _ _ _ _ => tw_name 3 scStands.nd) ?_ (fun x hx _ _ _ _ _ _ _ => vv 3)) (ea_cons (vb 1 rfl h2) ea_nil)) ⟨_, _, a, rfl, rfl, rfl, hl, hr2, rfl, rfl⟩) rfl
  exact fun x _ => ⟨stab_arg (G := [s0, s1, .va (.int 0), .va (encS x)]), .eq (.eq (.eq (.no .nil)))⟩
/-! ### _law_refused -/
structure ErrC (Pr : Program) (K : PySem.W.Frag) (mg : Str → Option Value) (CS CN CA : Addr) : Prop where
  gS : mg "StepError" = some (.ref CS)
  gN : mg "NotARow" = some (.ref CN)
  gA : mg "RowsApart" = some (.ref CA)
  vE : mg "ValueError" = none
  xN : XcE K CN
  xA : XcE K CA
  iN : PySem.W.findIn K (.ref CN) "index" = some none
  iF : PySem.W.findIn K (.ref CA) "first" = some none
  iS : PySem.W.findIn K (.ref CA) "second" = some none
  nS : PySem.W.kitOne K (.ref CN) (.ref CS) = some true
  nV : PySem.W.kitOne K (.ref CN) (.type "ValueError") = some true
  nA : PySem.W.kitOne K (.ref CN) (.ref CA) = some false
  aS : PySem.W.kitOne K (.ref CA) (.ref CS) = some true
  aN : PySem.W.kitOne K (.ref CA) (.ref CN) = some false
  eN : PySem.W.exmOne K (.ref CN) (.ref CN) = some true
  eA : PySem.W.exmOne K (.ref CA) (.ref CA) = some true
theorem bt_ve : bootBuiltins ("ValueError" : Str) = some (.type "ValueError") := by decide +kernel
def pRefused : Pm := fun Γ o => ∃ (s0 : Sl) (a : List (List Int)) (i : Int), Γ = [s0, .va (.int i)] ∧ One s0 (.lst (a.map encS)) ∧ rowErr a = some i ∧ a.length ≤ 1000000 ∧ o = .ret (.va (.bl true))
theorem scRefused : FnScope ["settings", "index", "e"] ["settings", "index"] (defScope sRefused) := ⟨rfl, rfl, rfl, by decide +kernel, rfl, by decide +kernel, by decide +kernel⟩
theorem ok_refused {f C CN CA CS : Addr} {fd : FuncData} (F : Fun K "_law_refused" "_law_refused" sRefused f fd) (T : Gl1 mg) (R : RowC Pr w K mg base C CN CA) (X : ErrC Pr K mg CS CN CA) : FnOk Pr w K mg base (L2N.CX Pr w) 5 f fd ["settings", "index"] (mkSp K pRefused) := by
  refine fn_sds F scRefused (fun Γ o ⟨_, _, _, h2, _⟩ => by rw [h2]; rfl) fun cdv A outer s H E hr H0 Oc Γ o ⟨s0, a, i, h3, h1, he, hl, h4⟩ => ?_
  subst h3 h4
  refine ⟨.ret (.va (.bl true)), ?_, rfl⟩
  refine sds_try (n := 2) (ob := .exc CN ["index"] [.int i] (some [s0, .va (.int i), .no])) rfl rfl scRefused.nd rfl rfl ⟨rfl, by decide, .inl X.gN⟩ (L2N.takes_of rfl rfl rfl rfl) (fun W' pn xe tk po => ?_) (.inl ⟨X.eN, fun ad oe d pn hz hf => ?_⟩)
  · refine sds_exprX (exx_make (Γe := none) tk R.mak hr (ea_cons (e_list T.list (vb 0 rfl h1)) ea_nil) ⟨a, hl, rfl, ?_⟩)
    unfold rowO
    rw [he]
  · refine ⟨.ret (.va (.bl true)), ?_, rfl⟩
    refine d_ifx (et_w (ew_or (et_not (et_val (e_isE T.isi X.xN hz hf (vv 2) (e_cls X.gS) (.own CS) X.nS))) fun _ => ew_or (et_not (et_val (e_isE T.isi X.xN hz hf (vv 2) (e_ty X.vE bt_ve) (.ty "ValueError") X.nV))) fun _ => ew_or1 (et_val (e_isE T.isi X.xN hz hf (vv 2) (e_cls X.gA) (.own CA) X.nA)))) rfl (by intro c; simp at c) fun _ => ?_
    refine d_ret (ev_and (e_isT T.isi T.int (ev_xf X.xN.xf X.iN hz hf (vv 2) rfl).r bt_int rfl ki_ii) fun _ => ev_and (ev_not (e_isT T.isi T.bool (ev_xf X.xN.xf X.iN hz hf (vv 2) rfl).r bt_bool rfl ki_ib)) fun _ => ev_one (ev_c cm_eqI (ev_xf X.xN.xf X.iN hz hf (vv 2) rfl) (vv 1))) ?_
    simp
/-! ### _law_sum_stands -/
def pSum (C : Addr) : Pm := fun Γ o => ∃ (s0 s1 s2 s3 : Sl) (pre post : List (List Int)) (ra rb : List Int), Γ = [s0, s1, s2, s3] ∧ One s0 (rowD C (pre ++ [ra])) ∧ One s1 (rowD C (rb :: post)) ∧ One s2 (.lst ((pre ++ [ra]).map encS)) ∧ One s3 (.lst ((rb :: post).map encS)) ∧
  pre.length + post.length + 2 ≤ 1000000 ∧ (∀ r ∈ pre ++ [ra] ++ rb :: post, r.length ≤ 1000000) ∧ (rb = ra → rowErr (pre ++ [ra] ++ post) = none) ∧ stab [s0, s1, s2, s3] = true ∧ o = .ret (.va (.bl true))
theorem scSum : FnScope ["first", "second", "settings", "others", "joined", "ends", "e"] ["first", "second", "settings", "others"] (defScope sSum) := ⟨rfl, rfl, rfl, by decide +kernel, rfl, by decide +kernel, by decide +kernel⟩
theorem eqL : EqC fun xs : List (List Int) => D.lst (xs.map encS) := eqC_lst eqS'
theorem okL (xs : List (List Int)) : okN 2 (D.lst (xs.map encS)) := okN_lst (okN_map okS)
theorem ok_sum {f C CN CA CS : Addr} {fd : FuncData} (F : Fun K "_law_sum_stands" "_law_sum_stands" sSum f fd) (T : Gl1 mg) (R : RowC Pr w K mg base C CN CA) (X : ErrC Pr K mg CS CN CA) (GE : FnG Pr w K mg base "_law_equal" 1 ["actual", "expected"] pEqual)
    (GS : FnG Pr w K mg base "_law_stands" 4 ["row", "settings"] (pStands C)) : FnOk Pr w K mg base (L2N.CX Pr w) 6 f fd ["first", "second", "settings", "others"] (mkSp K (pSum C)) := by
  refine fn_sds F scSum (fun Γ o ⟨_, _, _, _, _, _, _, _, h2, _⟩ => by rw [h2]; rfl) fun cdv A outer s H E hr H0 Oc Γ o ⟨s0, s1, s2, s3, pre, post, ra, rb, h3, h1, h2, h5, h6, hl, hw, he, hst, h4⟩ => ?_
  subst h3 h4
  have xa : L2.atI ((pre ++ [ra]).map encS) (-1) = some (encS ra) := by rw [List.map_append]; exact L2.atI_last _ _
  have xb : L2.atI ((rb :: post).map encS) 0 = some (encS rb) := L2.atI_nat (j := 0) rfl
  refine ⟨.ret (.va (.bl true)), ?_, rfl⟩
  refine d_set 4 scSum.nd ev_non ?_
  refine d_set 5 scSum.nd (ev_lst ea_nil rfl (by decide)) ?_
  by_cases c : rb = ra
  · refine sds_try (n := 6) (ob := .nx [s0, s1, s2, s3, .ow (rowD C (pre ++ [ra] ++ post)), .ow (.lst []), .no]) rfl rfl scSum.nd rfl rfl ⟨rfl, by decide, .inl X.gA⟩ (L2N.takes_of rfl rfl rfl rfl) (fun W' pn xe tk po => ?_) ?_
    · exact d_set 4 scSum.nd (ev_own R.sf R.add hr (vb 0 rfl h1) rfl (vb 1 rfl h2) rfl ⟨_, _, pre, ra, rb, post, rfl, rfl, rfl, hl, he, (if_pos c).symm⟩) sds_nil
    · show Sds _ _ _ _ _ _ _
      refine d_ifx (et_c (c_eq (hu64 hr) eqS' 1 okS (by decide) ra rb) (ev_ixL (vb 2 rfl h5) (ev_neg ev_int) xa).r (ev_ixL (vb 3 rfl h6) ev_int xb).r) rfl (fun _ => ?_) (fun d => by simp [c] at d)
      refine d_ret (ev_and (ev_c (c_eq (f := fun xs : List (List Int) => D.lst (xs.map encS)) (hu64 hr) eqL 2 okL (by decide) [] []) (vo 5) (ev_lst ea_nil rfl (by decide)).r) fun _ => ev_one (ev_call GS (hr.mono (by decide)) (ea_cons (vo 4) (ea_cons (Ev.aso (ev_catL (vb 2 rfl h5) (ev_slL (vb 3 rfl h6) (eo_at ev_int) eo_no).r ?_) ?_) ea_nil)) ⟨_, _, pre ++ [ra] ++ post, rfl, rfl, rfl, ?_, ?_, ?_, rfl, rfl⟩)) rfl
      · rw [List.length_map, cutD_map, List.length_map, show Y.cutD (rb :: post) (some 1) none = post from cutD_from (rb :: post) 1]
        simp
        omega
      · rw [cutD_map, show Y.cutD (rb :: post) (some 1) none = post from cutD_from (rb :: post) 1, ← List.map_append]
      · simp
      · simp
        omega
      · intro r hr2
        refine hw r ?_
        simp at hr2 ⊢
        rcases hr2 with h | h | h
        · exact .inl h
        · exact .inr (.inl h)
        · exact .inr (.inr (.inr h))
  · refine sds_try (n := 6) (ob := .exc CA ["second", "first"] [encS rb, encS ra] (some [s0, s1, s2, s3, .va .non, .ow (.lst []), .no])) rfl rfl scSum.nd rfl rfl ⟨rfl, by decide, .inl X.gA⟩ (L2N.takes_of rfl rfl rfl rfl) (fun W' pn xe tk po => ?_) (.inl ⟨X.eA, fun ad oe d pn hz hf => ?_⟩)
    · exact sds_setX (n := 4) scSum.nd rfl (.inl rfl) (exx_own (Γe := none) tk R.sf R.add hr (vb 0 rfl h1) rfl (vb 1 rfl h2) rfl ⟨_, _, pre, ra, rb, post, rfl, rfl, rfl, hl, he, (if_neg c).symm⟩) rfl (.inr rfl)
    · refine ⟨.nx [s0, s1, s2, s3, .va .non, .ow (.lst [encS ra, encS rb]), .va (.er ad CA d ["second", "first"] [encS rb, encS ra])], ?_, ?_⟩
      · refine sds_ifx (et_w (ew_or (et_not (et_val (e_isE T.isi X.xA hz hf (vv 6) (e_cls X.gS) (.own CS) X.aS))) fun _ => ew_or1 (et_val (e_isE T.isi X.xA hz hf (vv 6) (e_cls X.gN) (.own CN) X.aN)))) (by intro c; simp at c) fun _ => ?_
        exact d_set 5 scSum.nd (ev_lst (ea_cons (ev_xf X.xA.xf X.iF hz hf (vv 6) rfl) (ea_cons (ev_xf X.xA.xf X.iS hz hf (vv 6) rfl) ea_nil)) rfl (by show 2 ≤ _; decide)) sds_nil
      · show Sds _ _ _ _ _ _ _
        refine d_ifx (et_c (c_eq (hu64 hr) eqS' 1 okS (by decide) ra rb) (ev_ixL (vb 2 rfl h5) (ev_neg ev_int) xa).r (ev_ixL (vb 3 rfl h6) ev_int xb).r) rfl (fun d => absurd (of_decide_eq_true d).symm c) (fun _ => ?_)
        refine d_ret (ev_call GE (hr.mono (by decide)) (ea_cons (vo 5) (ea_cons (ev_lst (ea_cons (ev_ixL (vb 2 rfl h5) (ev_neg ev_int) xa) (ea_cons (ev_ixL (vb 3 rfl h6) ev_int xb) ea_nil)) rfl (by show 2 ≤ _; decide)) ea_nil)) ⟨_, _, [ra, rb], rfl, rfl, rfl, by show 2 ≤ _; decide, ?_, rfl, rfl⟩) rfl
        intro r hr2
        refine hw r ?_
        simp at hr2 ⊢
        rcases hr2 with h | h
        · exact .inr (.inl h)
        · exact .inr (.inr (.inl h))
end
end K96

namespace K96
open PySem PySem.Spec PyProof.Rows L2 Y
abbrev sLaw : Stmt := top 14
/-! ### plain facts -/
theorem foldA_get : ∀ (bs : List Int) (p : List Int × Int), ∃ L : List Int, (bs.foldl stepA p).1 = p.1 ++ L ∧ L.length = bs.length ∧ ∀ (i : Nat) (b : Int), bs[i]? = some b → 0 < b → ∃ v, L[i]? = some v ∧ 0 ≤ v ∧ v < b
  | [], p => ⟨[], by simp, rfl, fun i b h => by simp at h⟩
  | b :: bs, p => by
    obtain ⟨L, h1, h2, h3⟩ := foldA_get bs (stepA p b)
    refine ⟨p.2 % b :: L, ?_, by simp [h2], fun i b' h hb => ?_⟩
    · show (bs.foldl stepA (stepA p b)).1 = _
      rw [h1]
      simp [stepA]
    · cases i with
      | zero =>
        cases h
        exact ⟨_, rfl, Int.emod_nonneg _ (by omega), Int.emod_lt_of_pos _ hb⟩
      | succ i => exact h3 i b' h hb
theorem foldB_get : ∀ (bs : List Int) (p : List Int × Int), ∃ L : List Int, (bs.foldl stepB p).1 = p.1 ++ L ∧ L.length = bs.length ∧ ∀ (i : Nat) (b : Int), bs[i]? = some b → 0 < b → ∃ v, L[i]? = some v ∧ 0 ≤ v ∧ v < b
  | [], p => ⟨[], by simp, rfl, fun i b h => by simp at h⟩
  | b :: bs, p => by
    obtain ⟨L, h1, h2, h3⟩ := foldB_get bs (stepB p b)
    refine ⟨(p.2 * 48271 + 12345) % 2147483647 / 64 % b :: L, ?_, by simp [h2], fun i b' h hb => ?_⟩
    · show (bs.foldl stepB (stepB p b)).1 = _
      rw [h1]
      simp [stepB]
    · cases i with
      | zero =>
        cases h
        exact ⟨_, rfl, Int.emod_nonneg _ (by omega), Int.emod_lt_of_pos _ hb⟩
      | succ i => exact h3 i b' h hb
theorem drawV_get (c : Int) (bs : List Int) (i : Nat) (b : Int) (h : bs[i]? = some b) (hb : 0 < b) : ∃ v, (drawV c bs)[i]? = some v ∧ 0 ≤ v ∧ v < b := by
  unfold drawV
  split
  · obtain ⟨L, h1, _, h3⟩ := foldA_get bs ([], c - 1000000000000000000)
    rw [h1]
    exact h3 i b h hb
  · obtain ⟨L, h1, _, h3⟩ := foldB_get bs ([], c % 2147483647)
    rw [h1]
    exact h3 i b h hb
theorem badAt_none {n : Nat} : ∀ {rs : List (List Int)} (i : Nat), (∀ r ∈ rs, r.length = n) → badAt n i rs = none
  | [], _, _ => rfl
  | r :: rs, i, h => by
    unfold badAt
    rw [if_neg (by simpa using h r List.mem_cons_self)]
    exact badAt_none (i + 1) fun r' hr => h r' (List.mem_cons_of_mem _ hr)
theorem badAt_some {n : Nat} : ∀ {rs : List (List Int)} (i k : Nat), (∀ j < k, ∃ r, rs[j]? = some r ∧ r.length = n) → (∃ r, rs[k]? = some r ∧ r.length ≠ n) → badAt n i rs = some (i + k)
  | [], _, _, _, ⟨_, h, _⟩ => by simp at h
  | r :: rs, i, 0, _, ⟨r', h, hn⟩ => by
    cases h
    unfold badAt
    rw [if_pos hn]
    rfl
  | r :: rs, i, k + 1, h, ⟨r', h', hn⟩ => by
    obtain ⟨r0, e0, l0⟩ := h 0 (by omega)
    cases e0
    unfold badAt
    rw [if_neg (by simpa using l0), badAt_some (i + 1) k (fun j hj => h (j + 1) (by omega)) ⟨r', h', hn⟩]
    congr 1
    omega
theorem rowErr_none {n : Nat} {rs : List (List Int)} (h0 : rs ≠ []) (h : ∀ r ∈ rs, r.length = n) : rowErr rs = none := by
  cases rs with
  | nil => exact absurd rfl h0
  | cons r rs =>
    show (badAt r.length 0 (r :: rs)).map _ = none
    rw [h r List.mem_cons_self, badAt_none 0 h]
    rfl
theorem rowErr_some {n k : Nat} {rs : List (List Int)} (hk : 0 < k) (h : ∀ j < k, ∃ r, rs[j]? = some r ∧ r.length = n) (h' : ∃ r, rs[k]? = some r ∧ r.length ≠ n) : rowErr rs = some (k : Int) := by
  cases rs with
  | nil => obtain ⟨r, e, _⟩ := h'; simp at e
  | cons r rs =>
    obtain ⟨r0, e0, l0⟩ := h 0 hk
    cases e0
    show (badAt r.length 0 (r :: rs)).map _ = _
    rw [l0, badAt_some 0 k h h']
    simp
theorem valsV_len (c : Int) (n : Nat) : (valsV c n).length = n := by
  unfold valsV
  rw [List.length_map, drawV_len, List.length_replicate]
theorem setsV_len (c : Int) (n m : Nat) : (setsV c n m).length = n := by
  unfold setsV
  rw [List.length_map, List.length_range]
theorem setsV_width (c : Int) (n m : Nat) : ∀ r ∈ setsV c n m, r.length = m := by
  intro r hr
  unfold setsV at hr
  obtain ⟨k, hk, rfl⟩ := List.mem_map.mp hr
  have hk' := List.mem_range.mp hk
  rw [List.length_drop, List.length_take, valsV_len]
  have h1 : (k + 1) * m ≤ n * m := Nat.mul_le_mul_right m hk'
  have h2 : (k + 1) * m = k * m + m := Nat.succ_mul k m
  omega
theorem nine : ∀ (c : Int), ∃ a0 a1 a2 a3 a4 a5 a6 a7 a8 : Int, drawV c [8, 6, 5, 6, 3, 4, 2, 1000, 1000] = [a0, a1, a2, a3, a4, a5, a6, a7, a8] ∧ (0 ≤ a1 ∧ a1 < 6) ∧ (0 ≤ a2 ∧ a2 < 5) ∧ (0 ≤ a3 ∧ a3 < 6) ∧ (0 ≤ a7 ∧ a7 < 1000) ∧ (0 ≤ a8 ∧ a8 < 1000) := by
  intro c
  have hl := drawV_len c [8, 6, 5, 6, 3, 4, 2, 1000, 1000]
  have g := drawV_get c [8, 6, 5, 6, 3, 4, 2, 1000, 1000]
  generalize drawV c [8, 6, 5, 6, 3, 4, 2, 1000, 1000] = l at hl g
  match l, hl with
  | [a0, a1, a2, a3, a4, a5, a6, a7, a8], _ =>
    obtain ⟨_, e1, b1⟩ := g 1 6 rfl (by decide)
    obtain ⟨_, e2, b2⟩ := g 2 5 rfl (by decide)
    obtain ⟨_, e3, b3⟩ := g 3 6 rfl (by decide)
    obtain ⟨_, e7, b7⟩ := g 7 1000 rfl (by decide)
    obtain ⟨_, e8, b8⟩ := g 8 1000 rfl (by decide)
    cases e1
    cases e2
    cases e3
    cases e7
    cases e8
    exact ⟨_, _, _, _, _, _, _, _, _, rfl, b1, b2, b3, b7, b8⟩
theorem ixN_last {n : Nat} (h : 0 < n) : L2.ixN n (-1) = some (n - 1) := by
  unfold L2.ixN
  rw [if_neg (by decide), if_pos (by omega)]
  congr 1
  omega
theorem ixN_nat {n k : Nat} (h : k < n) : L2.ixN n (k : Int) = some k := by
  unfold L2.ixN
  rw [if_pos (by omega), if_pos (by omega)]
  simp
theorem atI_last' {rows : List (List Int)} {r : List Int} (h : rows[rows.length - 1]? = some r) (h0 : 0 < rows.length) : L2.atI (rows.map encS) (-1) = some (encS r) := by
  unfold L2.atI
  rw [List.length_map, ixN_last h0]
  show (rows.map encS)[rows.length - 1]? = _
  rw [List.getElem?_map, h]
  rfl
theorem wrong1 {n at' : Nat} {W : List (List Int)} {r : List Int} (hW : ∀ r ∈ W, r.length = n) (h1 : 0 < at') (hr : W[at']? = some r) : rowErr (W.set at' (r ++ [0])) = some (at' : Int) := by
  have ha := (List.getElem?_eq_some_iff.mp hr).1
  refine rowErr_some (n := n) h1 (fun j hj => ?_) ⟨r ++ [0], ?_, ?_⟩
  · rw [List.getElem?_set_ne (by omega)]
    exact ⟨W[j], List.getElem?_eq_getElem (by omega), hW _ (List.getElem_mem _)⟩
  · rw [List.getElem?_set_self ha]
  · have := hW r (List.mem_of_getElem? hr)
    simp
    omega
theorem wrong2 {n at' : Nat} {W : List (List Int)} {r q : List Int} (hW : ∀ r ∈ W, r.length = n) (h1 : 0 < at') (hr : W[at']? = some r) (hq : (W.set at' (r ++ [0]))[W.length - 1]? = some q) : rowErr ((W.set at' (r ++ [0])).set (W.length - 1) (q ++ [0, 0])) = some (at' : Int) := by
  have ha := (List.getElem?_eq_some_iff.mp hr).1
  have hl := hW r (List.mem_of_getElem? hr)
  refine rowErr_some (n := n) h1 (fun j hj => ?_) ?_
  · rw [List.getElem?_set_ne (by omega), List.getElem?_set_ne (by omega)]
    exact ⟨W[j], List.getElem?_eq_getElem (by omega), hW _ (List.getElem_mem _)⟩
  · by_cases e : at' = W.length - 1
    · rw [← e, List.getElem?_set_self ha] at hq
      cases hq
      refine ⟨r ++ [0] ++ [0, 0], ?_, by simp; omega⟩
      rw [← e, List.getElem?_set_self (by simpa using ha)]
    · refine ⟨r ++ [0], ?_, by simp; omega⟩
      rw [List.getElem?_set_ne (by omega), List.getElem?_set_self ha]
/-! ### the law -/
structure Fns (Pr : Program) (w : World) (K : PySem.W.Frag) (mg : Str → Option Value) (base : Heap) (C : Addr) : Prop where
  cell : FnG Pr w K mg base "_law_cell" 1 ["script", "k"] pCell
  draw : FnG Pr w K mg base "_law_draw" 1 ["cell", "bases"] pDraw
  sets : FnG Pr w K mg base "_law_settings" 2 ["cell", "count", "size"] pSets
  stands : FnG Pr w K mg base "_law_stands" 4 ["row", "settings"] (pStands C)
  sum : FnG Pr w K mg base "_law_sum_stands" 6 ["first", "second", "settings", "others"] (pSum C)
  refused : FnG Pr w K mg base "_law_refused" 5 ["settings", "index"] pRefused
theorem scLaw : FnScope ["script", "shape", "size", "counts", "settings", "others", "large", "passed", "row", "other", "wrong", "at"] ["script"] (defScope sLaw) := ⟨rfl, rfl, rfl, by decide +kernel, rfl, by decide +kernel, by decide +kernel⟩
section
variable {Pr : Program} {w : World} {K : PySem.W.Frag} {mg : Str → Option Value} {base : Heap}
theorem sds_nilq {X : Cx} {W : WX} {H0 : Hp} {Oc : List Addr} {Γ Γ1 : List Sl} (e : Γ = Γ1) : Sds X W H0 Oc Γ [] (.nx Γ1) := e ▸ sds_nil
theorem ok_law {f C CN CA CS : Addr} {fd : FuncData} (F : Fun K "law" "law" sLaw f fd) (T : Gl1 mg) (R : RowC Pr w K mg base C CN CA) (X : ErrC Pr K mg CS CN CA) (G : Fns Pr w K mg base C) : FnOk Pr w K mg base (L2N.CX Pr w) 8 f fd ["script"] (mkSp K pLaw) := by
  refine fn_sds F scLaw (fun Γ o ⟨_, h2, _⟩ => by rw [h2]; rfl) fun cdv A outer s H E hr H0 Oc Γ o ⟨ns, h3, hns, h4⟩ => ?_
  subst h3 h4
  have r1 := hr.mono (show 1 ≤ 7 by decide)
  have r2 := hr.mono (show 2 ≤ 7 by decide)
  have r4 := hr.mono (show 4 ≤ 7 by decide)
  have r5 := hr.mono (show 5 ≤ 7 by decide)
  have r6 := hr.mono (show 6 ≤ 7 by decide)
  refine ⟨.ret (.va (.bl true)), ?_, rfl⟩
  obtain ⟨a0, a1, a2, a3, a4, a5, a6, a7, a8, ea, b1, b2, b3, b7, b8⟩ := nine (cellV ns 0)
  have call : ∀ (k : Nat) {Γ : List Sl} (h : Γ[0]? = some (.va (.fz (ns.map .int)))), True := fun _ _ _ => trivial
  refine d_set 1 scLaw.nd (Ev.aso (d' := .lst ([a0, a1, a2, a3, a4, a5, a6, a7, a8].map .int)) (ev_call G.draw r1 (ea_cons (ev_call G.cell r1 (ea_cons (vv 0) (ea_cons ev_int ea_nil)) ⟨ns, 0, hns, rfl, rfl⟩)
    (ea_cons (ev_lst (ea_cons ev_int (ea_cons ev_int (ea_cons ev_int (ea_cons ev_int (ea_cons ev_int (ea_cons ev_int (ea_cons ev_int (ea_cons ev_int (ea_cons ev_int ea_nil))))))))) rfl (by decide)) ea_nil)) ⟨cellV ns 0, [8, 6, 5, 6, 3, 4, 2, 1000, 1000], by decide, by decide, rfl, rfl⟩) (by rw [ea])) ?_
  refine d_set 2 scLaw.nd (ev_ixL (vo 1) ev_int (L2.atI_nat (j := 2) rfl)) ?_
  refine d_set 3 scLaw.nd (ev_lst (ea_cons (ev_add ev_int (ev_ixL (vo 1) ev_int (L2.atI_nat (j := 1) rfl))) (ea_cons (ev_add ev_int (ev_ixL (vo 1) ev_int (L2.atI_nat (j := 3) rfl))) ea_nil)) rfl (by show 2 ≤ _; decide)) ?_
  -- the sizes
  obtain ⟨sz, c0, c1, q1, q2, hsz, hc0, hc1⟩ : ∃ sz c0 c1 : Nat, (a0 = 1 → a7 % 15 = sz ∧ 1 + a7 / 15 % 20 = c0 ∧ 1 + a8 % 20 = c1) ∧ (a0 ≠ 1 → a2 = sz ∧ 1 + a1 = c0 ∧ 1 + a3 = c1) ∧ sz ≤ 15 ∧ (1 ≤ c0 ∧ c0 ≤ 20) ∧ (1 ≤ c1 ∧ c1 ≤ 20) := by
    by_cases h : a0 = 1
    · refine ⟨(a7 % 15).toNat, (1 + a7 / 15 % 20).toNat, (1 + a8 % 20).toNat, fun _ => ⟨?_, ?_, ?_⟩, fun z => absurd h z, ?_, ?_, ?_⟩ <;> omega
    · refine ⟨a2.toNat, (1 + a1).toNat, (1 + a3).toNat, fun z => absurd z h, fun _ => ⟨?_, ?_, ?_⟩, ?_, ?_, ?_⟩ <;> omega
  refine sds_ifn [.va (.fz (ns.map .int)), .ow (.lst ([a0, a1, a2, a3, a4, a5, a6, a7, a8].map .int)), .va (.int sz), .ow (.lst [.int c0, .int c1]), .no, .no, .no, .no, .no, .no, .no, .no]
    (et_c cm_eqI (ev_ixL (d := .int a0) (vo 1) ev_int (L2.atI_nat (j := 0) rfl)) ev_int) (fun c => ?_) (fun c => ?_) ?_
  · obtain ⟨e1, e2, e3⟩ := q1 (of_decide_eq_true c)
    refine d_set 2 scLaw.nd (s := .va (.int sz)) ((ev_mod (ev_ixL (d := .int a7) (vo 1) ev_int (L2.atI_nat (j := 7) rfl)) ev_int (by decide)).ii e1) ?_
    refine d_set 3 scLaw.nd (s := .ow (.lst [.int c0, .int c1])) (ev_lst (ea_cons ((ev_add ev_int (ev_mod (ev_fdiv (ev_ixL (d := .int a7) (vo 1) ev_int (L2.atI_nat (j := 7) rfl)) ev_int ⟨by decide, by decide⟩) ev_int (by decide))).ii e2) (ea_cons ((ev_add ev_int (ev_mod (ev_ixL (d := .int a8) (vo 1) ev_int (L2.atI_nat (j := 8) rfl)) ev_int (by decide))).ii e3) ea_nil)) rfl (by show 2 ≤ _; decide)) ?_
    exact sds_nil
  · obtain ⟨e1, e2, e3⟩ := q2 (of_decide_eq_false c)
    exact sds_nilq (by rw [← e1, ← e2, ← e3]; rfl)
  refine d_set 4 scLaw.nd (ev_call G.sets r2 (ea_cons (ev_call G.cell r1 (ea_cons (vv 0) (ea_cons ev_int ea_nil)) ⟨ns, 1, hns, rfl, rfl⟩) (ea_cons (ev_ixL (vo 3) ev_int (L2.atI_nat (j := 0) rfl)) (ea_cons (vv 2) ea_nil))) ⟨cellV ns 1, c0, sz, by omega, by omega, rfl, rfl⟩) ?_
  refine d_set 5 scLaw.nd (ev_call G.sets r2 (ea_cons (ev_call G.cell r1 (ea_cons (vv 0) (ea_cons ev_int ea_nil)) ⟨ns, 2, hns, rfl, rfl⟩) (ea_cons (ev_ixL (vo 3) ev_int (L2.atI_nat (j := 1) rfl)) (ea_cons (vv 2) ea_nil))) ⟨cellV ns 2, c1, sz, by omega, by omega, rfl, rfl⟩) ?_
  have lA := setsV_len (cellV ns 1) c0 sz
  have wA := setsV_width (cellV ns 1) c0 sz
  have lB := setsV_len (cellV ns 2) c1 sz
  have wB := setsV_width (cellV ns 2) c1 sz
  generalize setsV (cellV ns 1) c0 sz = A0 at lA wA
  generalize setsV (cellV ns 2) c1 sz = B0 at lB wB
  -- a large number
  have eA0 : A0[A0.length - 1]? = some A0[A0.length - 1] := List.getElem?_eq_getElem (by omega)
  have wa0 := wA A0[A0.length - 1] (List.getElem_mem _)
  generalize A0[A0.length - 1] = ra0 at eA0 wa0
  obtain ⟨A1, kA, lA1, wA1⟩ : ∃ A1 : List (List Int), (if a5 = 1 ∧ 0 < sz then A1 = A0.set (A0.length - 1) (ra0.dropLast ++ [cellV ns 3 % (11 * 10 ^ (19 : Int).toNat) - 10 ^ (19 : Int).toNat]) else A1 = A0) ∧ A1.length = c0 ∧ ∀ r ∈ A1, r.length = sz := by
    by_cases h : a5 = 1 ∧ 0 < sz
    · refine ⟨A0.set (A0.length - 1) (ra0.dropLast ++ [cellV ns 3 % (11 * 10 ^ (19 : Int).toNat) - 10 ^ (19 : Int).toNat]), by rw [if_pos h], by rw [List.length_set, lA], fun r hr => ?_⟩
      rcases List.mem_or_eq_of_mem_set hr with h' | h'
      · exact wA r h'
      · rw [h', List.length_append, List.length_dropLast, wa0]
        simp
        omega
    · exact ⟨A0, by rw [if_neg h], lA, wA⟩
  refine sds_ifn [.va (.fz (ns.map .int)), .ow (.lst ([a0, a1, a2, a3, a4, a5, a6, a7, a8].map .int)), .va (.int sz), .ow (.lst [.int c0, .int c1]), .ow (.lst (A1.map encS)), .ow (.lst (B0.map encS)), .no, .no, .no, .no, .no, .no]
    (et_w (ew_and (et_c cm_eqI (ev_ixL (d := .int a5) (vo 1) ev_int (L2.atI_nat (j := 5) rfl)) ev_int) fun _ => ew_and1 (et_c cm_gt (vv 2) ev_int))) (fun c => ?_) (fun c => ?_) ?_
  · have h : a5 = 1 ∧ 0 < sz := by simpa using c
    rw [if_pos h] at kA
    refine d_set 6 scLaw.nd (ev_sub (ev_mod (e_int T.int (ev_call G.cell r1 (ea_cons (vv 0) (ea_cons ev_int ea_nil)) ⟨ns, 3, hns, rfl, rfl⟩)) (ev_mul ev_int (ev_pow ev_int ev_int ⟨by decide, by decide, by decide⟩) (.inl ⟨by decide, by decide⟩)) (by decide)) (ev_pow ev_int ev_int ⟨by decide, by decide, by decide⟩)) ?_
    refine sds_ix (d := encS (ra0.dropLast ++ [cellV ns 3 % (11 * 10 ^ (19 : Int).toNat) - 10 ^ (19 : Int).toNat])) (jj := A0.length - 1) 4 rfl rfl (Ev.as (ev_catT (ev_slT (ev_ixL (d := encS ra0) (vo 4) (ev_neg ev_int) (atI_last' eA0 (by omega))) eo_no (eo_at (ev_neg ev_int))) (ev_tup (ea_cons (vv 6) ea_nil) rfl (by show 1 ≤ _; decide)) ?_) ?_) (ev_neg ev_int) (by rw [List.length_map]; exact ixN_last (by omega)) ?_ rfl (by first | exact .inl rfl | exact .inr (.inl rfl)) rfl rfl
    · rw [cutD_map, List.length_map]
      show (Y.cutD ra0 none (some (-1))).length + 1 ≤ _
      rw [cutD_butLast, List.length_dropLast]
      omega
    · show D.tup _ = D.tup _
      rw [List.map_append, cutD_map]
      show D.tup ((Y.cutD ra0 none (some (-1))).map D.int ++ _) = _
      rw [cutD_butLast]
      rfl
    · refine sds_sub sds_nil ?_
      rw [kA]
      exact .eq (.eq (.eq (.eq (.eqc (by rw [List.map_set]) (.eq (.no (.eq (.eq (.eq (.eq (.eq .nil)))))))))))
  · have h : ¬ (a5 = 1 ∧ 0 < sz) := fun z => by simp [z.1, z.2] at c
    rw [if_neg h] at kA
    exact sds_nilq (by rw [kA]; rfl)
  have eA1 : A1[A1.length - 1]? = some A1[A1.length - 1] := List.getElem?_eq_getElem (by omega)
  have wra := wA1 A1[A1.length - 1] (List.getElem_mem _)
  generalize A1[A1.length - 1] = ra at eA1 wra
  have xa := atI_last' eA1 (by omega)
  obtain ⟨B1, kB, lB1, wB1⟩ : ∃ B1 : List (List Int), (if a4 = 0 then B1 = B0 else B1 = B0.set 0 ra) ∧ B1.length = c1 ∧ ∀ r ∈ B1, r.length = sz := by
    by_cases h : a4 = 0
    · exact ⟨B0, by rw [if_pos h], lB, wB⟩
    · refine ⟨B0.set 0 ra, by rw [if_neg h], by rw [List.length_set, lB], fun r hr => ?_⟩
      rcases List.mem_or_eq_of_mem_set hr with h' | h'
      · exact wB r h'
      · rw [h', wra]
  refine sds_ifn [.va (.fz (ns.map .int)), .ow (.lst ([a0, a1, a2, a3, a4, a5, a6, a7, a8].map .int)), .va (.int sz), .ow (.lst [.int c0, .int c1]), .ow (.lst (A1.map encS)), .ow (.lst (B1.map encS)), .no, .no, .no, .no, .no, .no]
    (et_c cm_neI (ev_ixL (d := .int a4) (vo 1) ev_int (L2.atI_nat (j := 4) rfl)) ev_int) (fun c => ?_) (fun c => ?_) ?_
  · have h : ¬ a4 = 0 := by simpa using c
    rw [if_neg h] at kB
    refine sds_ix (d := encS ra) (jj := 0) 5 rfl rfl (ev_ixL (vo 4) (ev_neg ev_int) xa) ev_int (by rw [List.length_map]; exact ixN_nat (k := 0) (by omega)) ?_ rfl (by first | exact .inl rfl | exact .inr (.inl rfl)) rfl rfl
    refine sds_nilq ?_
    rw [kB, List.map_set]
    rfl
  · have h : a4 = 0 := by simpa using c
    rw [if_pos h] at kB
    exact sds_nilq (by rw [kB])
  -- the rows
  have nA : A1 ≠ [] := fun z => by rw [z] at lA1; simp at lA1; omega
  have nB : B1 ≠ [] := fun z => by rw [z] at lB1; simp at lB1; omega
  have zA : ∀ r ∈ A1, r.length ≤ 1000000 := fun r h => by rw [wA1 r h]; omega
  have zB : ∀ r ∈ B1, r.length ≤ 1000000 := fun r h => by rw [wB1 r h]; omega
  have oA : rowO C CN A1 = .ret (.ow (rowD C A1)) := by unfold rowO; rw [rowErr_none nA wA1]; rfl
  have oB : rowO C CN B1 = .ret (.ow (rowD C B1)) := by unfold rowO; rw [rowErr_none nB wB1]; rfl
  obtain ⟨rf, tl, hA⟩ : ∃ rf tl, A1 = rf :: tl := by
    cases A1 with
    | nil => exact absurd rfl nA
    | cons rf tl => exact ⟨rf, tl, rfl⟩
  have x0 : L2.atI (A1.map encS) 0 = some (encS rf) := L2.atI_nat (j := 0) (by rw [hA]; rfl)
  have wrf := wA1 rf (by rw [hA]; simp)
  refine d_set 7 scLaw.nd (e_list T.list (vo 4)) ?_
  refine d_set 8 scLaw.nd (ev_make (d := rowD C A1) R.mak r4 (ea_cons (vo 7) ea_nil) ⟨A1, by omega, rfl, oA.symm⟩) ?_
  refine sds_ix (d := encS (rf ++ [1])) (jj := 0) 7 rfl rfl (Ev.as (ev_catT (ev_ixL (vo 7) ev_int x0) (ev_tup (ea_cons ev_int ea_nil) rfl (by show 1 ≤ _; decide)) (by rw [List.length_map]; show rf.length + 1 ≤ _; omega)) (by show D.tup _ = D.tup _; rw [List.map_append]; rfl)) ev_int (by rw [List.length_map]; exact ixN_nat (k := 0) (by omega)) ?_ rfl (by first | exact .inl rfl | exact .inr (.inl rfl)) rfl rfl
  refine d_app 7 (ev_ixL (vo 4) ev_int x0) ?_ ?_
  · rw [List.length_set, List.length_map]; omega
  refine sds_sub (Γ1 := [.va (.fz (ns.map .int)), .ow (.lst ([a0, a1, a2, a3, a4, a5, a6, a7, a8].map .int)), .no, .no, .ow (.lst (A1.map encS)), .ow (.lst (B1.map encS)), .no, .no, .ow (rowD C A1), .no, .no, .no]) ?_ (.eq (.eq (.no (.no (.eq (.eq (.no (.no (.eq (.eq (.eq (.eq .nil))))))))))))
  have pA : ∀ {s0 s1 : Sl}, One s0 (rowD C A1) → One s1 (.lst (A1.map encS)) → stab [s0, s1] = true → pStands C [s0, s1] (.ret (.va (.bl true))) := fun {s0 s1} h1 h2 h3 => ⟨s0, s1, A1, rfl, h1, h2, nA, by omega, zA, h3, rfl⟩
  refine d_ifx (et_w (ew_or (et_not (et_val (ev_call G.stands r4 (ea_cons (vo 8) (ea_cons (vo 4) ea_nil)) (pA rfl rfl rfl)))) fun _ => ew_or1 (et_not (et_val (ev_call G.stands r4 (ea_cons (ev_meth0 R.cl R.back r5 (vo 8) rfl (by decide) ⟨_, A1, rfl, rfl, by omega, ?_, rfl⟩) (ea_cons (ev_revL (vo 4)) ea_nil)) ⟨_, _, A1.reverse, rfl, rfl, ?_, ?_, ?_, ?_, rfl, rfl⟩))))) rfl (by intro c; simp at c) fun _ => ?_
  · exact rowErr_none (n := sz) (by simpa using nA) fun r h => wA1 r (List.mem_reverse.mp h)
  · show some _ = some _
    rw [List.map_reverse]
  · simpa using nA
  · rw [List.length_reverse]; omega
  · exact fun r h => zA r (List.mem_reverse.mp h)
  refine d_set 9 scLaw.nd (ev_make (d := rowD C B1) R.mak r4 (ea_cons (e_list T.list (vo 5)) ea_nil) ⟨B1, by omega, rfl, oB.symm⟩) ?_
  -- the sum
  obtain ⟨pre, hpre⟩ : ∃ pre, A1 = pre ++ [ra] := by
    refine ⟨A1.dropLast, ?_⟩
    have e : A1.getLast nA = ra := by
      rw [List.getLast_eq_getElem]
      exact (List.getElem?_eq_some_iff.mp eA1).2
    rw [← e, List.dropLast_concat_getLast]
  obtain ⟨rb, post, hpost⟩ : ∃ rb post, B1 = rb :: post := by
    cases B1 with
    | nil => exact absurd rfl nB
    | cons rb post => exact ⟨rb, post, rfl⟩
  have pS : pSum C [.br (rowD C A1), .br (rowD C B1), .br (.lst (A1.map encS)), .br (.lst (B1.map encS))] (.ret (.va (.bl true))) := by
    have lp := congrArg List.length hpre
    have lq := congrArg List.length hpost
    simp at lp lq
    refine ⟨_, _, _, _, pre, post, ra, rb, rfl, by rw [hpre]; rfl, by rw [hpost]; rfl, by rw [hpre]; rfl, by rw [hpost]; rfl, by omega, fun r h => ?_, fun _ => ?_, rfl, rfl⟩
    · rcases List.mem_append.mp h with h' | h'
      · exact zA r (hpre ▸ h')
      · exact zB r (hpost ▸ h')
    · refine rowErr_none (n := sz) (by simp) fun r h => ?_
      rcases List.mem_append.mp h with h' | h'
      · exact wA1 r (hpre ▸ h')
      · exact wB1 r (by rw [hpost]; exact List.mem_cons_of_mem _ h')
  refine d_ifx (et_not (et_val (ev_call G.sum r6 (ea_cons (vo 8) (ea_cons (vo 9) (ea_cons (vo 4) (ea_cons (vo 5) ea_nil)))) pS))) rfl (by intro c; simp at c) fun _ => ?_
  refine d_ifx (et_w (ew_or (et_not (et_val (ev_call G.stands r4 (ea_cons (vo 8) (ea_cons (vo 4) ea_nil)) (pA rfl rfl rfl)))) fun _ => ew_or1 (et_not (et_val (ev_call G.stands r4 (ea_cons (vo 9) (ea_cons (vo 5) ea_nil)) ⟨_, _, B1, rfl, rfl, rfl, nB, by omega, zB, rfl, rfl⟩))))) rfl (by intro c; simp at c) fun _ => ?_
  -- the wrong rows
  refine d_set 10 scLaw.nd (s := .ow (.lst ((A1 ++ B1).map encS))) (Ev.aso (ev_catL (vo 4) (vo 5) (by rw [List.length_map, List.length_map]; omega)) (by rw [List.map_append])) ?_
  have wW : ∀ r ∈ A1 ++ B1, r.length = sz := fun r h => (List.mem_append.mp h).elim (wA1 r) (wB1 r)
  have lW : (A1 ++ B1).length = c0 + c1 := by rw [List.length_append, lA1, lB1]
  generalize A1 ++ B1 = V1 at wW lW
  obtain ⟨at', hat, hat1, hat2⟩ : ∃ at' : Nat, (1 : Int) + cellV ns 4 % (((V1.map encS).length : Int) - 1) = (at' : Int) ∧ 0 < at' ∧ at' < V1.length := by
    rw [List.length_map]
    have h1 : 0 ≤ cellV ns 4 % ((V1.length : Int) - 1) := Int.emod_nonneg _ (by omega)
    have h2 : cellV ns 4 % ((V1.length : Int) - 1) < (V1.length : Int) - 1 := Int.emod_lt_of_pos _ (by omega)
    exact ⟨(1 + cellV ns 4 % ((V1.length : Int) - 1)).toNat, by omega, by omega, by omega⟩
  refine d_set 11 scLaw.nd (s := .va (.int at')) ((ev_add ev_int (ev_mod (e_int T.int (ev_call G.cell r1 (ea_cons (vv 0) (ea_cons ev_int ea_nil)) ⟨ns, 4, hns, rfl, rfl⟩)) (ev_sub (e_len T.len (vo 10)) ev_int) (by rw [List.length_map]; omega))).ii hat) ?_
  have eW : V1[at']? = some V1[at'] := List.getElem?_eq_getElem hat2
  have wWa := wW V1[at'] (List.getElem_mem _)
  generalize V1[at'] = rw' at eW wWa
  refine sds_ix (d := encS (rw' ++ [0])) (jj := at') 10 rfl rfl (Ev.as (ev_catT (ev_ixL (d := encS rw') (vo 10) (vv 11) (atI_map eW)) (ev_tup (ea_cons ev_int ea_nil) rfl (by show 1 ≤ _; decide)) (by rw [List.length_map]; show rw'.length + 1 ≤ _; omega)) (by show D.tup _ = D.tup _; rw [List.map_append]; rfl)) (vv 11) (by rw [List.length_map]; exact ixN_nat hat2) ?_ rfl (by first | exact .inl rfl | exact .inr (.inl rfl)) rfl rfl
  -- the last one too?
  obtain ⟨q, hq, lq⟩ : ∃ q, (V1.set at' (rw' ++ [0]))[V1.length - 1]? = some q ∧ q.length ≤ 100 := by
    have hl : V1.length - 1 < (V1.set at' (rw' ++ [0])).length := by rw [List.length_set]; omega
    refine ⟨_, List.getElem?_eq_getElem hl, ?_⟩
    rcases List.mem_or_eq_of_mem_set (List.getElem_mem hl) with h' | h'
    · rw [wW _ h']; omega
    · rw [h', List.length_append, wWa]
      show sz + 1 ≤ _
      omega
  obtain ⟨V2, kV, lV2, eV⟩ : ∃ V2 : List (List Int), (if a6 = 1 then V2 = (V1.set at' (rw' ++ [0])).set (V1.length - 1) (q ++ [0, 0]) else V2 = V1.set at' (rw' ++ [0])) ∧ V2.length = V1.length ∧ rowErr V2 = some (at' : Int) := by
    by_cases h : a6 = 1
    · exact ⟨_, by rw [if_pos h], by rw [List.length_set, List.length_set], wrong2 wW hat1 eW hq⟩
    · exact ⟨_, by rw [if_neg h], by rw [List.length_set], wrong1 wW hat1 eW⟩
  refine sds_ifn [.va (.fz (ns.map .int)), .no, .no, .no, .no, .no, .no, .no, .no, .no, .ow (.lst (V2.map encS)), .va (.int at')]
    (et_c cm_eqI (ev_ixL (d := .int a6) (vo 1) ev_int (L2.atI_nat (j := 6) rfl)) ev_int) (fun c => ?_) (fun c => ?_) ?_
  · rw [if_pos (of_decide_eq_true c)] at kV
    have xq : L2.atI ((V1.set at' (rw' ++ [0])).map encS) (-1) = some (encS q) := atI_last' (by rw [List.length_set]; exact hq) (by rw [List.length_set]; omega)
    rw [List.map_set] at xq
    refine sds_ix (d := encS (q ++ [0, 0])) (jj := V1.length - 1) 10 rfl rfl (Ev.as (ev_catT (ev_ixL (d := encS q) (vo 10) (ev_neg ev_int) xq) (ev_tup (ea_cons ev_int (ea_cons ev_int ea_nil)) rfl (by show 2 ≤ _; decide)) (by rw [List.length_map]; show q.length + 2 ≤ _; omega)) (by show D.tup _ = D.tup _; rw [List.map_append]; rfl)) (ev_neg ev_int) (by rw [List.length_set, List.length_map]; exact ixN_last (by omega)) ?_ rfl (by first | exact .inl rfl | exact .inr (.inl rfl)) rfl rfl
    refine sds_sub sds_nil ?_
    rw [kV]
    exact .eq (.no (.no (.no (.no (.no (.no (.no (.no (.no (.eqc (by rw [List.map_set, List.map_set]) (.eq .nil)))))))))))
  · rw [if_neg (of_decide_eq_false c)] at kV
    refine sds_sub sds_nil ?_
    rw [kV]
    exact .eq (.no (.no (.no (.no (.no (.no (.no (.no (.no (.eqc (by rw [List.map_set]) (.eq .nil)))))))))))
  refine d_ret (ev_and (ev_call G.refused r5 (ea_cons (vo 10) (ea_cons (vv 11) ea_nil)) ⟨_, V2, at', rfl, rfl, eV, by omega, rfl⟩) fun _ => ev_one (ev_call G.refused r5 (ea_cons (ev_lst ea_nil rfl (by decide)) (ea_cons (ev_neg ev_int) ea_nil)) ⟨_, [], -1, rfl, rfl, rfl, by decide, rfl⟩)) rfl
end
end K96

namespace K96
open PySem PySem.Spec PyProof.Rows L2 Y
abbrev rIter : Stmt := inClass (top 5) 6
abbrev eN : Stmt := inClass (top 2) 0
abbrev eA : Stmt := inClass (top 3) 0
theorem all_mk {l : PySem.W.OpenLaw} {w : World} {K : PySem.W.Frag} {h : Heap} {mg : Str → Option Value} {fa CS CN CA C f_init f_back f_add f_iter f_start p_start f_goal p_goal f_steps p_steps f_cell f_draw f_sets f_equal f_stands f_refused f_sum f_law f_CN cda_CN cc_CN f_CA cda_CA cc_CA : Addr} (X : K.In h) (G : h.Ns mainGlobals mg) (hfa : mg "law" = some (.ref fa))
    {od_init an_init : Option Addr} {sl_init : Array (Option Value)} {oc_init kV_init dc_init pm_init cd_init ct_init : Value}
    {od_back an_back : Option Addr} {sl_back : Array (Option Value)} {oc_back kV_back dc_back pm_back cd_back ct_back : Value}
    {od_add an_add : Option Addr} {sl_add : Array (Option Value)} {oc_add kV_add dc_add pm_add cd_add ct_add : Value}
    {od_iter an_iter : Option Addr} {sl_iter : Array (Option Value)} {oc_iter kV_iter dc_iter pm_iter cd_iter ct_iter : Value}
    {od_start an_start : Option Addr} {sl_start : Array (Option Value)} {oc_start kV_start dc_start pm_start cd_start ct_start : Value}
    {rs_start : List Value}
    {od_goal an_goal : Option Addr} {sl_goal : Array (Option Value)} {oc_goal kV_goal dc_goal pm_goal cd_goal ct_goal : Value}
    {rs_goal : List Value}
    {od_steps an_steps : Option Addr} {sl_steps : Array (Option Value)} {oc_steps kV_steps dc_steps pm_steps cd_steps ct_steps : Value}
    {rs_steps : List Value}
    {od_cell an_cell : Option Addr} {sl_cell : Array (Option Value)} {oc_cell kV_cell dc_cell pm_cell cd_cell ct_cell : Value}
    {od_draw an_draw : Option Addr} {sl_draw : Array (Option Value)} {oc_draw kV_draw dc_draw pm_draw cd_draw ct_draw : Value}
    {od_sets an_sets : Option Addr} {sl_sets : Array (Option Value)} {oc_sets kV_sets dc_sets pm_sets cd_sets ct_sets : Value}
    {od_equal an_equal : Option Addr} {sl_equal : Array (Option Value)} {oc_equal kV_equal dc_equal pm_equal cd_equal ct_equal : Value}
    {od_stands an_stands : Option Addr} {sl_stands : Array (Option Value)} {oc_stands kV_stands dc_stands pm_stands cd_stands ct_stands : Value}
    {od_refused an_refused : Option Addr} {sl_refused : Array (Option Value)} {oc_refused kV_refused dc_refused pm_refused cd_refused ct_refused : Value}
    {od_sum an_sum : Option Addr} {sl_sum : Array (Option Value)} {oc_sum kV_sum dc_sum pm_sum cd_sum ct_sum : Value}
    {od_law an_law : Option Addr} {sl_law : Array (Option Value)} {oc_law kV_law dc_law pm_law cd_law ct_law : Value}
    {nm_CN qn_CN : Str} {N_CN : Addr} {bs_CN su_CN : List Value} {sn_CN : List Str} {ab_CN : Bool} {col_CN : Option Bool} {dd_CN : Option Addr} {m0_CN m1_CN m2_CN m3_CN m5_CN : Option Value}
    {od_CN an_CN ccd_CN cld_CN : Option Addr} {sl_CN ccs_CN csl_CN : Array (Option Value)} {vs_CN : Array Value} {file_CN : Str} {tf_CN : Tok} {oc_CN kV_CN dc_CN pm_CN ct_CN ccl_CN cl_CN : Value}
    {nm_CA qn_CA : Str} {N_CA : Addr} {bs_CA su_CA : List Value} {sn_CA : List Str} {ab_CA : Bool} {col_CA : Option Bool} {dd_CA : Option Addr} {m0_CA m1_CA m2_CA m3_CA m5_CA : Option Value}
    {od_CA an_CA ccd_CA cld_CA : Option Addr} {sl_CA ccs_CA csl_CA : Array (Option Value)} {vs_CA : Array Value} {file_CA : Str} {tf_CA : Tok} {oc_CA kV_CA dc_CA pm_CA ct_CA ccl_CA cl_CA : Value}
    (n_CS : PySem.W.nsIn K mainGlobals "StepError" = some (some (.ref CS)))
    (n_CN : PySem.W.nsIn K mainGlobals "NotARow" = some (some (.ref CN)))
    (n_CA : PySem.W.nsIn K mainGlobals "RowsApart" = some (some (.ref CA)))
    (n_C : PySem.W.nsIn K mainGlobals "Row" = some (some (.ref C)))
    (oc0 : PySem.W.specialIn K (.builtin "object.__class__") "__get__" = some (some (.builtin "getset_descriptor.__get__")))
    (oc1 : PySem.W.takesIn K (.builtin "object.__class__") = some true)
    (pg_C : PySem.W.plainGet K C Str.empty = true)
    (hd_C : PySem.W.hasDictIn K C = true)
    (po_C : PySem.W.plainOver K C = true)
    (sa_C : PySem.W.findIn K (.ref C) "__setattr__" = some (some (.builtin "object.__setattr__")))
    (kc_C : PySem.W.keepIn K (.ref C) = true)
    (mk_C : PySem.W.makesIn K C = true)
    (ca_C : PySem.W.findIn K (.ref C) "__class__" = some (some (.builtin "object.__class__")))
    (mo_C : PySem.W.mroIn K C (.type "object") = some true)
    (sf_C : PySem.W.selfFirst K C = true)
    (no_C_settings : PySem.W.findIn K (.ref C) "settings" = some none)
    (a_init : PySem.W.findIn K (.ref C) "__init__" = some (some (.ref f_init)))
    (i_init : PySem.W.isFn K (.ref f_init) = true)
    (l_init : K.lookup f_init = some ⟨oc_init, od_init, .func (PySem.W.fnOf "__init__" "Row.__init__" (defArgs rInit) (defBody rInit) (defScope rInit) .none kV_init dc_init pm_init an_init cd_init ct_init), sl_init⟩)
    (c_init : PySem.W.codeIn K cd_init "Row.__init__" = true)
    (k_init : PySem.W.keepIn K (.ref f_init) = true)
    (a_back : PySem.W.findIn K (.ref C) "back" = some (some (.ref f_back)))
    (i_back : PySem.W.isFn K (.ref f_back) = true)
    (l_back : K.lookup f_back = some ⟨oc_back, od_back, .func (PySem.W.fnOf "back" "Row.back" (defArgs rBack) (defBody rBack) (defScope rBack) .none kV_back dc_back pm_back an_back cd_back ct_back), sl_back⟩)
    (c_back : PySem.W.codeIn K cd_back "Row.back" = true)
    (k_back : PySem.W.keepIn K (.ref f_back) = true)
    (a_add : PySem.W.findIn K (.ref C) "__add__" = some (some (.ref f_add)))
    (i_add : PySem.W.isFn K (.ref f_add) = true)
    (l_add : K.lookup f_add = some ⟨oc_add, od_add, .func (PySem.W.fnOf "__add__" "Row.__add__" (defArgs rAdd) (defBody rAdd) (defScope rAdd) .none kV_add dc_add pm_add an_add cd_add ct_add), sl_add⟩)
    (c_add : PySem.W.codeIn K cd_add "Row.__add__" = true)
    (k_add : PySem.W.keepIn K (.ref f_add) = true)
    (a_iter : PySem.W.findIn K (.ref C) "__iter__" = some (some (.ref f_iter)))
    (i_iter : PySem.W.isFn K (.ref f_iter) = true)
    (l_iter : K.lookup f_iter = some ⟨oc_iter, od_iter, .func (PySem.W.fnOf "__iter__" "Row.__iter__" (defArgs rIter) (defBody rIter) (defScope rIter) .none kV_iter dc_iter pm_iter an_iter cd_iter ct_iter), sl_iter⟩)
    (c_iter : PySem.W.codeIn K cd_iter "Row.__iter__" = true)
    (k_iter : PySem.W.keepIn K (.ref f_iter) = true)
    (a_start : PySem.W.findIn K (.ref C) "start" = some (some (.ref p_start)))
    (g_start : PySem.W.specialIn K (.ref p_start) "__get__" = some (some (.builtin "property.__get__")))
    (t_start : PySem.W.takesIn K (.ref p_start) = some true)
    (r_start : PySem.W.recIn K p_start "property" = some (.ref f_start :: rs_start))
    (l_start : K.lookup f_start = some ⟨oc_start, od_start, .func (PySem.W.fnOf "start" "Row.start" (defArgs rStart) (defBody rStart) (defScope rStart) .none kV_start dc_start pm_start an_start cd_start ct_start), sl_start⟩)
    (c_start : PySem.W.codeIn K cd_start "Row.start" = true)
    (k_start : PySem.W.keepIn K (.ref f_start) = true)
    (a_goal : PySem.W.findIn K (.ref C) "goal" = some (some (.ref p_goal)))
    (g_goal : PySem.W.specialIn K (.ref p_goal) "__get__" = some (some (.builtin "property.__get__")))
    (t_goal : PySem.W.takesIn K (.ref p_goal) = some true)
    (r_goal : PySem.W.recIn K p_goal "property" = some (.ref f_goal :: rs_goal))
    (l_goal : K.lookup f_goal = some ⟨oc_goal, od_goal, .func (PySem.W.fnOf "goal" "Row.goal" (defArgs rGoal) (defBody rGoal) (defScope rGoal) .none kV_goal dc_goal pm_goal an_goal cd_goal ct_goal), sl_goal⟩)
    (c_goal : PySem.W.codeIn K cd_goal "Row.goal" = true)
    (k_goal : PySem.W.keepIn K (.ref f_goal) = true)
    (a_steps : PySem.W.findIn K (.ref C) "steps" = some (some (.ref p_steps)))
    (g_steps : PySem.W.specialIn K (.ref p_steps) "__get__" = some (some (.builtin "property.__get__")))
    (t_steps : PySem.W.takesIn K (.ref p_steps) = some true)
    (r_steps : PySem.W.recIn K p_steps "property" = some (.ref f_steps :: rs_steps))
    (l_steps : K.lookup f_steps = some ⟨oc_steps, od_steps, .func (PySem.W.fnOf "steps" "Row.steps" (defArgs rSteps) (defBody rSteps) (defScope rSteps) .none kV_steps dc_steps pm_steps an_steps cd_steps ct_steps), sl_steps⟩)
    (c_steps : PySem.W.codeIn K cd_steps "Row.steps" = true)
    (k_steps : PySem.W.keepIn K (.ref f_steps) = true)
    (a_cell : PySem.W.nsIn K mainGlobals "_law_cell" = some (some (.ref f_cell)))
    (l_cell : K.lookup f_cell = some ⟨oc_cell, od_cell, .func (PySem.W.fnOf "_law_cell" "_law_cell" (defArgs sCell) (defBody sCell) (defScope sCell) .none kV_cell dc_cell pm_cell an_cell cd_cell ct_cell), sl_cell⟩)
    (c_cell : PySem.W.codeIn K cd_cell "_law_cell" = true)
    (k_cell : PySem.W.keepIn K (.ref f_cell) = true)
    (a_draw : PySem.W.nsIn K mainGlobals "_law_draw" = some (some (.ref f_draw)))
    (l_draw : K.lookup f_draw = some ⟨oc_draw, od_draw, .func (PySem.W.fnOf "_law_draw" "_law_draw" (defArgs sDraw) (defBody sDraw) (defScope sDraw) .none kV_draw dc_draw pm_draw an_draw cd_draw ct_draw), sl_draw⟩)
    (c_draw : PySem.W.codeIn K cd_draw "_law_draw" = true)
    (k_draw : PySem.W.keepIn K (.ref f_draw) = true)
    (a_sets : PySem.W.nsIn K mainGlobals "_law_settings" = some (some (.ref f_sets)))
    (l_sets : K.lookup f_sets = some ⟨oc_sets, od_sets, .func (PySem.W.fnOf "_law_settings" "_law_settings" (defArgs sSets) (defBody sSets) (defScope sSets) .none kV_sets dc_sets pm_sets an_sets cd_sets ct_sets), sl_sets⟩)
    (c_sets : PySem.W.codeIn K cd_sets "_law_settings" = true)
    (k_sets : PySem.W.keepIn K (.ref f_sets) = true)
    (a_equal : PySem.W.nsIn K mainGlobals "_law_equal" = some (some (.ref f_equal)))
    (l_equal : K.lookup f_equal = some ⟨oc_equal, od_equal, .func (PySem.W.fnOf "_law_equal" "_law_equal" (defArgs sEqual) (defBody sEqual) (defScope sEqual) .none kV_equal dc_equal pm_equal an_equal cd_equal ct_equal), sl_equal⟩)
    (c_equal : PySem.W.codeIn K cd_equal "_law_equal" = true)
    (k_equal : PySem.W.keepIn K (.ref f_equal) = true)
    (a_stands : PySem.W.nsIn K mainGlobals "_law_stands" = some (some (.ref f_stands)))
    (l_stands : K.lookup f_stands = some ⟨oc_stands, od_stands, .func (PySem.W.fnOf "_law_stands" "_law_stands" (defArgs sStands) (defBody sStands) (defScope sStands) .none kV_stands dc_stands pm_stands an_stands cd_stands ct_stands), sl_stands⟩)
    (c_stands : PySem.W.codeIn K cd_stands "_law_stands" = true)
    (k_stands : PySem.W.keepIn K (.ref f_stands) = true)
    (a_refused : PySem.W.nsIn K mainGlobals "_law_refused" = some (some (.ref f_refused)))
    (l_refused : K.lookup f_refused = some ⟨oc_refused, od_refused, .func (PySem.W.fnOf "_law_refused" "_law_refused" (defArgs sRefused) (defBody sRefused) (defScope sRefused) .none kV_refused dc_refused pm_refused an_refused cd_refused ct_refused), sl_refused⟩)
    (c_refused : PySem.W.codeIn K cd_refused "_law_refused" = true)
    (k_refused : PySem.W.keepIn K (.ref f_refused) = true)
    (a_sum : PySem.W.nsIn K mainGlobals "_law_sum_stands" = some (some (.ref f_sum)))
    (l_sum : K.lookup f_sum = some ⟨oc_sum, od_sum, .func (PySem.W.fnOf "_law_sum_stands" "_law_sum_stands" (defArgs sSum) (defBody sSum) (defScope sSum) .none kV_sum dc_sum pm_sum an_sum cd_sum ct_sum), sl_sum⟩)
    (c_sum : PySem.W.codeIn K cd_sum "_law_sum_stands" = true)
    (k_sum : PySem.W.keepIn K (.ref f_sum) = true)
    (a_law : PySem.W.nsIn K mainGlobals "law" = some (some (.ref f_law)))
    (l_law : K.lookup f_law = some ⟨oc_law, od_law, .func (PySem.W.fnOf "law" "law" (defArgs sLaw) (defBody sLaw) (defScope sLaw) .none kV_law dc_law pm_law an_law cd_law ct_law), sl_law⟩)
    (c_law : PySem.W.codeIn K cd_law "law" = true)
    (k_law : PySem.W.keepIn K (.ref f_law) = true)
    (z_len : PySem.W.nsIn K mainGlobals "len" = some none)
    (z_int : PySem.W.nsIn K mainGlobals "int" = some none)
    (z_tuple : PySem.W.nsIn K mainGlobals "tuple" = some none)
    (z_range : PySem.W.nsIn K mainGlobals "range" = some none)
    (z_list : PySem.W.nsIn K mainGlobals "list" = some none)
    (z_enumerate : PySem.W.nsIn K mainGlobals "enumerate" = some none)
    (z_isinstance : PySem.W.nsIn K mainGlobals "isinstance" = some none)
    (z_bool : PySem.W.nsIn K mainGlobals "bool" = some none)
    (z_iter : PySem.W.nsIn K mainGlobals "iter" = some none)
    (z_super : PySem.W.nsIn K mainGlobals "super" = some none)
    (z_ValueError : PySem.W.nsIn K mainGlobals "ValueError" = some none)
    (tp : (l.prog.main.scope.names.lookup ("super" : Str)).isSome = false)
    (thr : PySem.W.nsIn K PySem.cStatics "thirdparty.any" = some none)
    (x_CN : K.lookup CN = some (excClassObj nm_CN qn_CN CN N_CN bs_CN [.ref CS, .type "ValueError", .type "Exception", .type "BaseException", .type "object"] true sn_CN su_CN ab_CN col_CN dd_CN m0_CN m1_CN m2_CN m3_CN m5_CN "ValueError.__new__"))
    (sa_CN : PySem.W.findIn K (.ref CN) "__setattr__" = some (some (.builtin "object.__setattr__")))
    (eb_CN : PySem.W.subIn K (.ref CN) (.type "BaseException") = some true)
    (ty_CN : PySem.W.typeIn K (.ref CN) = some (.type "type"))
    (kc_CN : PySem.W.keepIn K (.ref CN) = true)
    (ms_CN : PySem.W.mroIn K CN (.ref CN) = some true)
    (su_CN : PySem.W.ks_superIn K CN CN "__init__" = some (some (.builtin "ValueError.__init__")))
    (ve_CN : PySem.W.subIn K (.ref CN) (.type "ValueError") = some true)
    (ci_CN : PySem.W.isClsIn K CN = true)
    (a_CN : PySem.W.findIn K (.ref CN) "__init__" = some (some (.ref f_CN)))
    (t_CN : PySem.W.typeIn K (.ref f_CN) = some (.type "function"))
    (l_CN : K.lookup f_CN = some ⟨oc_CN, od_CN, .func (PySem.W.fnX "__init__" "NotARow.__init__" (defArgs eN) (defBody eN) (Sup.scOf (defScope eN).names) [("__class__", cc_CN)] .none kV_CN dc_CN pm_CN an_CN (.ref cda_CN) ct_CN), sl_CN⟩)
    (c_CN : PySem.W.codeIn K (.ref cda_CN) "NotARow.__init__" = true)
    (cd_CN : K.lookup cda_CN = some ⟨ccl_CN, ccd_CN, .fields vs_CN, ccs_CN⟩)
    (v2_CN : vs_CN[2]? = some (.str file_CN tf_CN))
    (pf_CN : ((l.prog.main.file : Str) == file_CN) = true)
    (hc_CN : K.lookup cc_CN = some ⟨cl_CN, cld_CN, .cell (some (.ref CN)), csl_CN⟩)
    (no_CN_index : PySem.W.findIn K (.ref CN) "index" = some none)
    (ga_CN : PySem.W.findIn K (.ref CN) "__getattribute__" = some (some (.builtin "BaseException.__getattribute__")))
    (gg_CN : PySem.W.findIn K (.ref CN) "__getattr__" = some none)
    (hd_CN : PySem.W.hasDictIn K CN = true)
    (ca_CN : PySem.W.findIn K (.ref CN) "__class__" = some (some (.builtin "object.__class__")))
    (mo_CN : PySem.W.mroIn K CN (.type "object") = some true)
    (x_CA : K.lookup CA = some (excClassObj nm_CA qn_CA CA N_CA bs_CA [.ref CS, .type "ValueError", .type "Exception", .type "BaseException", .type "object"] true sn_CA su_CA ab_CA col_CA dd_CA m0_CA m1_CA m2_CA m3_CA m5_CA "ValueError.__new__"))
    (sa_CA : PySem.W.findIn K (.ref CA) "__setattr__" = some (some (.builtin "object.__setattr__")))
    (eb_CA : PySem.W.subIn K (.ref CA) (.type "BaseException") = some true)
    (ty_CA : PySem.W.typeIn K (.ref CA) = some (.type "type"))
    (kc_CA : PySem.W.keepIn K (.ref CA) = true)
    (ms_CA : PySem.W.mroIn K CA (.ref CA) = some true)
    (su_CA : PySem.W.ks_superIn K CA CA "__init__" = some (some (.builtin "ValueError.__init__")))
    (ve_CA : PySem.W.subIn K (.ref CA) (.type "ValueError") = some true)
    (ci_CA : PySem.W.isClsIn K CA = true)
    (a_CA : PySem.W.findIn K (.ref CA) "__init__" = some (some (.ref f_CA)))
    (t_CA : PySem.W.typeIn K (.ref f_CA) = some (.type "function"))
    (l_CA : K.lookup f_CA = some ⟨oc_CA, od_CA, .func (PySem.W.fnX "__init__" "RowsApart.__init__" (defArgs eA) (defBody eA) (Sup.scOf (defScope eA).names) [("__class__", cc_CA)] .none kV_CA dc_CA pm_CA an_CA (.ref cda_CA) ct_CA), sl_CA⟩)
    (c_CA : PySem.W.codeIn K (.ref cda_CA) "RowsApart.__init__" = true)
    (cd_CA : K.lookup cda_CA = some ⟨ccl_CA, ccd_CA, .fields vs_CA, ccs_CA⟩)
    (v2_CA : vs_CA[2]? = some (.str file_CA tf_CA))
    (pf_CA : ((l.prog.main.file : Str) == file_CA) = true)
    (hc_CA : K.lookup cc_CA = some ⟨cl_CA, cld_CA, .cell (some (.ref CA)), csl_CA⟩)
    (no_CA_first : PySem.W.findIn K (.ref CA) "first" = some none)
    (no_CA_second : PySem.W.findIn K (.ref CA) "second" = some none)
    (ga_CA : PySem.W.findIn K (.ref CA) "__getattribute__" = some (some (.builtin "BaseException.__getattribute__")))
    (gg_CA : PySem.W.findIn K (.ref CA) "__getattr__" = some none)
    (hd_CA : PySem.W.hasDictIn K CA = true)
    (ca_CA : PySem.W.findIn K (.ref CA) "__class__" = some (some (.builtin "object.__class__")))
    (mo_CA : PySem.W.mroIn K CA (.type "object") = some true)
    (nS : PySem.W.kitOne K (.ref CN) (.ref CS) = some true)
    (nV : PySem.W.kitOne K (.ref CN) (.type "ValueError") = some true)
    (nA : PySem.W.kitOne K (.ref CN) (.ref CA) = some false)
    (aS : PySem.W.kitOne K (.ref CA) (.ref CS) = some true)
    (aN : PySem.W.kitOne K (.ref CA) (.ref CN) = some false)
    (eN : PySem.W.exmOne K (.ref CN) (.ref CN) = some true)
    (eA : PySem.W.exmOne K (.ref CA) (.ref CA) = some true) :
    ∃ fd : FuncData, (∀ (s : Shared) (v : Value), BindsTo s fd ⟨[v], []⟩ [("script", v)]) ∧ ∀ base : Heap, K.In base → base.Ns mainGlobals mg → FnOk l.prog w K mg base (L2N.CX l.prog w) 8 fa fd ["script"] (mkSp K pLaw) := by
  have e := hfa.symm.trans (PySem.W.mg_of X G a_law)
  cases e
  have g_CS : mg "StepError" = some (.ref CS) := PySem.W.mg_of X G n_CS
  have g_CN : mg "NotARow" = some (.ref CN) := PySem.W.mg_of X G n_CN
  have g_CA : mg "RowsApart" = some (.ref CA) := PySem.W.mg_of X G n_CA
  have g_C : mg "Row" = some (.ref C) := PySem.W.mg_of X G n_C
  have Cl_C : Cls K C := ⟨pg_C, hd_C, po_C, sa_C⟩
  have Is_C : IsC K C := ⟨Cl_C, ca_C, oc0, oc1, mo_C⟩
  have F_init := fun_mk (st := rInit) l_init c_init k_init
  have b_init := F_init.binds (ps := ["self", "settings"]) fun _ _ _ _ _ _ us hl => match us, hl with | [_, _], _ => rfl
  have F_back := fun_mk (st := rBack) l_back c_back k_back
  have b_back := F_back.binds (ps := ["self"]) fun _ _ _ _ _ _ us hl => match us, hl with | [_], _ => rfl
  have F_add := fun_mk (st := rAdd) l_add c_add k_add
  have b_add := F_add.binds (ps := ["self", "other"]) fun _ _ _ _ _ _ us hl => match us, hl with | [_, _], _ => rfl
  have F_iter := fun_mk (st := rIter) l_iter c_iter k_iter
  have b_iter := F_iter.binds (ps := ["self"]) fun _ _ _ _ _ _ us hl => match us, hl with | [_], _ => rfl
  have F_start := fun_mk (st := rStart) l_start c_start k_start
  have b_start := F_start.binds (ps := ["self"]) fun _ _ _ _ _ _ us hl => match us, hl with | [_], _ => rfl
  have F_goal := fun_mk (st := rGoal) l_goal c_goal k_goal
  have b_goal := F_goal.binds (ps := ["self"]) fun _ _ _ _ _ _ us hl => match us, hl with | [_], _ => rfl
  have F_steps := fun_mk (st := rSteps) l_steps c_steps k_steps
  have b_steps := F_steps.binds (ps := ["self"]) fun _ _ _ _ _ _ us hl => match us, hl with | [_], _ => rfl
  have F_cell := fun_mk (st := sCell) l_cell c_cell k_cell
  have b_cell := F_cell.binds (ps := ["script", "k"]) fun _ _ _ _ _ _ us hl => match us, hl with | [_, _], _ => rfl
  have F_draw := fun_mk (st := sDraw) l_draw c_draw k_draw
  have b_draw := F_draw.binds (ps := ["cell", "bases"]) fun _ _ _ _ _ _ us hl => match us, hl with | [_, _], _ => rfl
  have F_sets := fun_mk (st := sSets) l_sets c_sets k_sets
  have b_sets := F_sets.binds (ps := ["cell", "count", "size"]) fun _ _ _ _ _ _ us hl => match us, hl with | [_, _, _], _ => rfl
  have F_equal := fun_mk (st := sEqual) l_equal c_equal k_equal
  have b_equal := F_equal.binds (ps := ["actual", "expected"]) fun _ _ _ _ _ _ us hl => match us, hl with | [_, _], _ => rfl
  have F_stands := fun_mk (st := sStands) l_stands c_stands k_stands
  have b_stands := F_stands.binds (ps := ["row", "settings"]) fun _ _ _ _ _ _ us hl => match us, hl with | [_, _], _ => rfl
  have F_refused := fun_mk (st := sRefused) l_refused c_refused k_refused
  have b_refused := F_refused.binds (ps := ["settings", "index"]) fun _ _ _ _ _ _ us hl => match us, hl with | [_, _], _ => rfl
  have F_sum := fun_mk (st := sSum) l_sum c_sum k_sum
  have b_sum := F_sum.binds (ps := ["first", "second", "settings", "others"]) fun _ _ _ _ _ _ us hl => match us, hl with | [_, _, _, _], _ => rfl
  have F_law := fun_mk (st := sLaw) l_law c_law k_law
  have b_law := F_law.binds (ps := ["script"]) fun _ _ _ _ _ _ us hl => match us, hl with | [_], _ => rfl
  have m_len : mg "len" = none := PySem.W.mg_none_of X G z_len
  have m_int : mg "int" = none := PySem.W.mg_none_of X G z_int
  have m_tuple : mg "tuple" = none := PySem.W.mg_none_of X G z_tuple
  have m_range : mg "range" = none := PySem.W.mg_none_of X G z_range
  have m_list : mg "list" = none := PySem.W.mg_none_of X G z_list
  have m_enumerate : mg "enumerate" = none := PySem.W.mg_none_of X G z_enumerate
  have m_isinstance : mg "isinstance" = none := PySem.W.mg_none_of X G z_isinstance
  have m_bool : mg "bool" = none := PySem.W.mg_none_of X G z_bool
  have m_iter : mg "iter" = none := PySem.W.mg_none_of X G z_iter
  have m_super : mg "super" = none := PySem.W.mg_none_of X G z_super
  have m_ValueError : mg "ValueError" = none := PySem.W.mg_none_of X G z_ValueError
  have Ef_CN : ErrF l.prog K mg CN cda_CN cc_CN := ⟨⟨⟨_, _, _, _, _, _, _, _, _, _, _, _, _, _, _, x_CN, by rfl⟩, sa_CN, eb_CN, ty_CN, kc_CN⟩, ms_CN, su_CN, ve_CN, ⟨_, _, _, _, _, _, cd_CN, v2_CN, pf_CN⟩, tp, m_super, ci_CN, thr, ⟨_, _, _, hc_CN⟩⟩
  have Xc_CN : XcE K CN := ⟨⟨ga_CN, gg_CN, eb_CN, hd_CN⟩, ci_CN, ca_CN, oc0, oc1, mo_CN⟩
  have X_CN : Sup.Ex1 l.prog K mg "NotARow" "index" CN := err1 (txt := "not a row") Ef_CN g_CN a_CN t_CN l_CN c_CN (NdefX.nscope_by (by decide +kernel)) (by decide +kernel) ⟨_, _, _, _, _, _, _, _, _, _, _, fun env => ⟨_, rfl⟩, rfl⟩ ⟨_, rfl, rfl⟩ no_CN_index (fun us hl => match us, hl with | [_, _], _ => rfl)
  have Ef_CA : ErrF l.prog K mg CA cda_CA cc_CA := ⟨⟨⟨_, _, _, _, _, _, _, _, _, _, _, _, _, _, _, x_CA, by rfl⟩, sa_CA, eb_CA, ty_CA, kc_CA⟩, ms_CA, su_CA, ve_CA, ⟨_, _, _, _, _, _, cd_CA, v2_CA, pf_CA⟩, tp, m_super, ci_CA, thr, ⟨_, _, _, hc_CA⟩⟩
  have Xc_CA : XcE K CA := ⟨⟨ga_CA, gg_CA, eb_CA, hd_CA⟩, ci_CA, ca_CA, oc0, oc1, mo_CA⟩
  have X_CA : Sup.Ex2 l.prog K mg "RowsApart" "first" "second" CA := err2 (txt := "the second row does not start where the first one ends") Ef_CA g_CA a_CA t_CA l_CA c_CA (NdefX.nscope_by (by decide +kernel)) (by decide +kernel) ⟨_, _, _, _, _, _, _, _, _, _, _, _, _, _, _, fun env => ⟨_, rfl⟩, rfl⟩ ⟨_, rfl, rfl⟩ no_CA_first no_CA_second (fun us hl => match us, hl with | [_, _, _], _ => rfl)
  have T0 : Gl0 mg := ⟨m_len, m_int, m_tuple, m_range, m_list, m_enumerate⟩
  have T : Gl1 mg := ⟨T0, m_isinstance, m_bool⟩
  have R0 : RowT K C := ⟨Cl_C, no_C_settings⟩
  have It : Own.IterAt K mg C f_iter "settings" := ⟨a_iter, i_iter, Cl_C, no_C_settings, m_iter, _, _, _, _, _, _, _, _, _, _, _, _, _, ["self"], _, _, _, _, _, l_iter, c_iter, ⟨rfl, rfl, rfl, by decide +kernel, rfl, by decide +kernel, by decide +kernel⟩, rfl, rfl, rfl, (fun us hl => match us, hl with | [_], _ => rfl), (fun _ => rfl), (fun _ => rfl), (fun _ => rfl)⟩
  refine ⟨PySem.W.fnOf "law" "law" (defArgs sLaw) (defBody sLaw) (defScope sLaw) .none kV_law dc_law pm_law an_law cd_law ct_law, fun s v => .of_eq rfl, fun base _ _ => ?_⟩
  have G_cell : FnG l.prog w K mg base "_law_cell" 1 ["script", "k"] pCell := ⟨_, _, ok_cell F_cell T0, PySem.W.mg_of X G a_cell, k_cell, b_cell⟩
  have G_draw : FnG l.prog w K mg base "_law_draw" 1 ["cell", "bases"] pDraw := ⟨_, _, ok_draw F_draw T0, PySem.W.mg_of X G a_draw, k_draw, b_draw⟩
  have G_sets : FnG l.prog w K mg base "_law_settings" 2 ["cell", "count", "size"] pSets := ⟨_, _, ok_sets F_sets T0 G_draw, PySem.W.mg_of X G a_sets, k_sets, b_sets⟩
  have G_equal : FnG l.prog w K mg base "_law_equal" 1 ["actual", "expected"] pEqual := ⟨_, _, ok_equal F_equal T, PySem.W.mg_of X G a_equal, k_equal, b_equal⟩
  have M : ClG l.prog w K mg base "Row" C 3 ["self", "settings"] (pInit C CN) := ⟨_, _, ok_init F_init T0 R0 X_CN, ⟨mk_C, a_init, i_init, kc_C⟩, g_C, b_init⟩
  have P_start : PrG l.prog w K mg base C "start" 1 ["self"] (pStart C) := ⟨_, _, _, ok_start F_start R0, ⟨a_start, g_start, t_start, _, r_start⟩, b_start⟩
  have P_goal : PrG l.prog w K mg base C "goal" 1 ["self"] (pGoal C) := ⟨_, _, _, ok_goal F_goal R0, ⟨a_goal, g_goal, t_goal, _, r_goal⟩, b_goal⟩
  have P_steps : PrG l.prog w K mg base C "steps" 1 ["self"] (pSteps C) := ⟨_, _, _, ok_steps F_steps T0 R0, ⟨a_steps, g_steps, t_steps, _, r_steps⟩, b_steps⟩
  have M_back : MtG l.prog w K mg base C "back" 5 ["self"] (pBack C) := ⟨_, _, ok_back F_back R0 M, ⟨a_back, i_back, k_back⟩, b_back⟩
  have M_add : MtG l.prog w K mg base C "__add__" 5 ["self", "other"] (pAdd C CA) := ⟨_, _, ok_add F_add R0 X_CA M, ⟨a_add, i_add, k_add⟩, b_add⟩
  have R : RowC l.prog w K mg base C CN CA := ⟨R0, g_C, Is_C, sf_C, P_start, P_goal, P_steps, M_back, M_add, M, ⟨f_iter, It⟩⟩
  have Er : ErrC l.prog K mg CS CN CA := ⟨g_CS, g_CN, g_CA, m_ValueError, Xc_CN, Xc_CA, no_CN_index, no_CA_first, no_CA_second, nS, nV, nA, aS, aN, eN, eA⟩
  have G_stands : FnG l.prog w K mg base "_law_stands" 4 ["row", "settings"] (pStands C) := ⟨_, _, ok_stands F_stands T R G_equal, PySem.W.mg_of X G a_stands, k_stands, b_stands⟩
  have G_refused : FnG l.prog w K mg base "_law_refused" 5 ["settings", "index"] pRefused := ⟨_, _, ok_refused F_refused T R Er, PySem.W.mg_of X G a_refused, k_refused, b_refused⟩
  have G_sum : FnG l.prog w K mg base "_law_sum_stands" 6 ["first", "second", "settings", "others"] (pSum C) := ⟨_, _, ok_sum F_sum T R Er G_equal G_stands, PySem.W.mg_of X G a_sum, k_sum, b_sum⟩
  exact ok_law F_law T R Er ⟨G_cell, G_draw, G_sets, G_stands, G_sum, G_refused⟩
end K96

open PySem PySem.W PyProof.Rows in
set_option maxRecDepth 100000 in
set_option maxHeartbeats 0 in
theorem PySem.Challenge.cw_everystepstands_k96_rows_joined_and_turn_holds : PySem.Challenge.rw_everystepstands_k96_rows_joined_and_turn.Holds := by
  w_on; o_law; k_head; (case hw => w_witness2)
  k_fill
  refine Y.walk 8 ⟨rfl, by decide, by decide⟩ (l := PySem.Challenge.rw_everystepstands_k96_rows_joined_and_turn) rfl rfl (fun w h Z => PySem.W.kIn_of Z) ?F
  case F =>
    intro w mg fa h KX G hmg
    refine' K96.all_mk KX G hmg ?n_CS ?n_CN ?n_CA ?n_C ?oc0 ?oc1 ?pg_C ?hd_C ?po_C ?sa_C ?kc_C ?mk_C ?ca_C ?mo_C ?sf_C ?no_C_settings ?a_init ?i_init ?l_init ?c_init ?k_init ?a_back ?i_back ?l_back ?c_back ?k_back ?a_add ?i_add ?l_add ?c_add ?k_add ?a_iter ?i_iter ?l_iter ?c_iter ?k_iter ?a_start ?g_start ?t_start ?r_start ?l_start ?c_start ?k_start ?a_goal ?g_goal ?t_goal ?r_goal ?l_goal ?c_goal ?k_goal ?a_steps ?g_steps ?t_steps ?r_steps ?l_steps ?c_steps ?k_steps ?a_cell ?l_cell ?c_cell ?k_cell ?a_draw ?l_draw ?c_draw ?k_draw ?a_sets ?l_sets ?c_sets ?k_sets ?a_equal ?l_equal ?c_equal ?k_equal ?a_stands ?l_stands ?c_stands ?k_stands ?a_refused ?l_refused ?c_refused ?k_refused ?a_sum ?l_sum ?c_sum ?k_sum ?a_law ?l_law ?c_law ?k_law ?z_len ?z_int ?z_tuple ?z_range ?z_list ?z_enumerate ?z_isinstance ?z_bool ?z_iter ?z_super ?z_ValueError ?tp ?thr ?x_CN ?sa_CN ?eb_CN ?ty_CN ?kc_CN ?ms_CN ?su_CN ?ve_CN ?ci_CN ?a_CN ?t_CN ?l_CN ?c_CN ?cd_CN ?v2_CN ?pf_CN ?hc_CN ?no_CN_index ?ga_CN ?gg_CN ?hd_CN ?ca_CN ?mo_CN ?x_CA ?sa_CA ?eb_CA ?ty_CA ?kc_CA ?ms_CA ?su_CA ?ve_CA ?ci_CA ?a_CA ?t_CA ?l_CA ?c_CA ?cd_CA ?v2_CA ?pf_CA ?hc_CA ?no_CA_first ?no_CA_second ?ga_CA ?gg_CA ?hd_CA ?ca_CA ?mo_CA ?nS ?nV ?nA ?aS ?aN ?eN ?eA
    (case n_CS => k_is)
    (case n_CN => k_is)
    (case n_CA => k_is)
    (case n_C => k_is)
    (case oc0 => k_is)
    (case oc1 => k_is)
    (case pg_C => k_is)
    (case hd_C => k_is)
    (case po_C => k_is)
    (case sa_C => k_is)
    (case kc_C => k_is)
    (case mk_C => k_is)
    (case ca_C => k_is)
    (case mo_C => k_is)
    (case sf_C => k_is)
    (case no_C_settings => k_is)
    (case a_init => k_is)
    (case i_init => k_is)
    (case l_init => k_is)
    (case c_init => k_is)
    (case k_init => k_is)
    (case a_back => k_is)
    (case i_back => k_is)
    (case l_back => k_is)
    (case c_back => k_is)
    (case k_back => k_is)
    (case a_add => k_is)
    (case i_add => k_is)
    (case l_add => k_is)
    (case c_add => k_is)
    (case k_add => k_is)
    (case a_iter => k_is)
    (case i_iter => k_is)
    (case l_iter => k_is)
    (case c_iter => k_is)
    (case k_iter => k_is)
    (case a_start => k_is)
    (case g_start => k_is)
    (case t_start => k_is)
    (case r_start => k_is)
    (case l_start => k_is)
    (case c_start => k_is)
    (case k_start => k_is)
    (case a_goal => k_is)
    (case g_goal => k_is)
    (case t_goal => k_is)
    (case r_goal => k_is)
    (case l_goal => k_is)
    (case c_goal => k_is)
    (case k_goal => k_is)
    (case a_steps => k_is)
    (case g_steps => k_is)
    (case t_steps => k_is)
    (case r_steps => k_is)
    (case l_steps => k_is)
    (case c_steps => k_is)
    (case k_steps => k_is)
    (case a_cell => k_is)
    (case l_cell => k_is)
    (case c_cell => k_is)
    (case k_cell => k_is)
    (case a_draw => k_is)
    (case l_draw => k_is)
    (case c_draw => k_is)
    (case k_draw => k_is)
    (case a_sets => k_is)
    (case l_sets => k_is)
    (case c_sets => k_is)
    (case k_sets => k_is)
    (case a_equal => k_is)
    (case l_equal => k_is)
    (case c_equal => k_is)
    (case k_equal => k_is)
    (case a_stands => k_is)
    (case l_stands => k_is)
    (case c_stands => k_is)
    (case k_stands => k_is)
    (case a_refused => k_is)
    (case l_refused => k_is)
    (case c_refused => k_is)
    (case k_refused => k_is)
    (case a_sum => k_is)
    (case l_sum => k_is)
    (case c_sum => k_is)
    (case k_sum => k_is)
    (case a_law => k_is)
    (case l_law => k_is)
    (case c_law => k_is)
    (case k_law => k_is)
    (case z_len => k_is)
    (case z_int => k_is)
    (case z_tuple => k_is)
    (case z_range => k_is)
    (case z_list => k_is)
    (case z_enumerate => k_is)
    (case z_isinstance => k_is)
    (case z_bool => k_is)
    (case z_iter => k_is)
    (case z_super => k_is)
    (case z_ValueError => k_is)
    (case tp => decide +kernel)
    (case thr => k_is)
    (case x_CN => k_is)
    (case sa_CN => k_is)
    (case eb_CN => k_is)
    (case ty_CN => k_is)
    (case kc_CN => k_is)
    (case ms_CN => k_is)
    (case su_CN => ks_is)
    (case ve_CN => k_is)
    (case ci_CN => k_is)
    (case a_CN => k_is)
    (case t_CN => k_is)
    (case l_CN => k_is)
    (case c_CN => k_is)
    (case cd_CN => k_is)
    (case v2_CN => rfl)
    (case pf_CN => decide +kernel)
    (case hc_CN => k_is)
    (case no_CN_index => k_is)
    (case ga_CN => k_is)
    (case gg_CN => k_is)
    (case hd_CN => k_is)
    (case ca_CN => k_is)
    (case mo_CN => k_is)
    (case x_CA => k_is)
    (case sa_CA => k_is)
    (case eb_CA => k_is)
    (case ty_CA => k_is)
    (case kc_CA => k_is)
    (case ms_CA => k_is)
    (case su_CA => ks_is)
    (case ve_CA => k_is)
    (case ci_CA => k_is)
    (case a_CA => k_is)
    (case t_CA => k_is)
    (case l_CA => k_is)
    (case c_CA => k_is)
    (case cd_CA => k_is)
    (case v2_CA => rfl)
    (case pf_CA => decide +kernel)
    (case hc_CA => k_is)
    (case no_CA_first => k_is)
    (case no_CA_second => k_is)
    (case ga_CA => k_is)
    (case gg_CA => k_is)
    (case hd_CA => k_is)
    (case ca_CA => k_is)
    (case mo_CA => k_is)
    (case nS => kit_is)
    (case nV => kit_is)
    (case nA => kit_is)
    (case aS => kit_is)
    (case aN => kit_is)
    (case eN => kts_exm)
    (case eA => kts_exm)

