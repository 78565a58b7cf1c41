import PyProof.Rows.All
import Wide.All
import OpenK.AllK
import Wide.FinOn
import HandS.ForMost
import HandS.ExcInit
import HandS.Nested
import HandS.Exc
import HandS.ExcCtx
import HandS.HotCalls
import KE.KExcSuper
import KE.KSuper
import HandS.IterVal
import KE.KOpsOwn
import KE.KOwnIter
import HandS.ExcOwn
import HandS.WordsExc
import HandS.TupAny
import HandS.TupMul
import HandS.Style
import HandS.IsInst
import HandS.Wide
import HandS.Property
import HandS.CallRecv
import HandS.ExcField
import KE.KExcIs
import HandS.SortInts
import HandS.Iter
import PyProof.EnumMake
import KE.GoesMore
import KE.GoesEnum
import HandS.TupSets
import HandS.Deep
import KE.OsSort
import HandS.Conv
import KE.KRevSl
import PySem.Challenge.RW_everystepstands_k91_orders_by_neighbours
import KE.RegKSuper
import KE.RegKIsAll
import KE.RegKTryMore
set_option Elab.async false
set_option linter.all false
set_option maxRecDepth 100000
set_option maxHeartbeats 2000000
namespace Sup
open PySem PySem.Spec PyProof.Rows L2 NdefX

/-! ## a body that says super(): it is walked where its own code stands on top -/
structure PSA (X : Cx) (c : Code) (st : List Stmt) (t : TS) : Prop where
  run : ∀ (pins : List (Addr × Obj)) (s : Shared) (σ : L2.St) (H : Hp) (D : Ends), Inv X pins σ H s → t D σ H →
    _root_.PySem.wpAt (model X.prog X.w) X.A c (execs st X.env) (SP X pins D) X.xe s
section
variable {X : Cx} {c : Code} {st : Stmt} {rest : List Stmt} {t u : TS}
theorem psa_of (h : PSs X rest t) : PSA X c rest t := ⟨fun pins s σ H D I q => _root_.PySem.wpAt_of_wpAny (h.run pins s σ H D I q)⟩
theorem psa_cons (h1 : PS X st t) (h2 : PSA X c rest u) : PSA X c (st :: rest) (tSeq t u) := by
  refine ⟨fun pins s σ H D I q => ?_⟩
  refine ks_wpAt_execs_cons (_root_.PySem.wpAt_of_wpAny (thn (h1.run pins s σ H { D with nx := u D } I q) fun f s1 q1 => ?_))
  cases f with
  | next =>
    obtain ⟨σ', H', I', q'⟩ := q1
    exact h2.run pins s1 σ' H' D I' q'
  | ret v => exact q1
  | brk => exact q1
  | cont => exact q1
end

/-- a def whose body may say super(): F tells its text, fr the captured names (`__class__`), ws what they hold -/
theorem fn_ofA {CX : CXT} {P : Program} {w : World} {K : PySem.W.Frag} {mg : Str → Option Value} {base : Heap} {k : Nat} {f : Addr} {F : NF} {dV kV doc pm ct oc : Value} {an od : Option Addr} {osl : Array (Option Value)} {N ps fr : List Str} {ws : List (Option V)} {sp : Sp}
    (lk : K.lookup f = some ⟨oc, od, .func (PySem.W.fnX F.name F.qual F.params F.body F.scope F.cl dV kV doc pm an (.ref F.c) ct), osl⟩) (hcd : PySem.W.codeIn K (.ref F.c) F.qual = true) (S : NScope N ps fr F.scope)
    (hc : ∀ (s : Shared) (A : Around) (outer : List Env) (H : Hp), Env0 P w K mg base A outer s H → CellsAt F.cl fr ws s.heap H)
    (len : ∀ vs H Q E, sp vs H Q E → vs.length = ps.length)
    (hbody : ∀ (A : Around) (outer : List Env) (s : Shared) (H : Hp) (vs : List V) (Q : VK) (E : XK), Room k (A.deeper (envF F f s.heap.objs.size)) → sp vs H Q E →
      ∃ t, PSA (ncx CX P w K mg base N F f A outer s H E) (.func F.body (envF F f s.heap.objs.size)) F.body t ∧ t { nx := fun _ H' => Q .non H', rt := Q } (startF N vs ws) H) :
    FnOk P w K mg base CX (k + 1) f (PySem.W.fnX F.name F.qual F.params F.body F.scope F.cl dV kV doc pm an (.ref F.c) ct) ps sp := by
  refine ⟨len, fun A outer s H args us vs Q E hr e0 hb r hsp => ?_⟩
  have hl := len _ _ _ _ hsp
  have KX : K.In s.heap := e0.mod.kin.keeps fun b o e => (e0.bs b o e).1
  have lim : s.heap.NoLimit := e0.mod.nolimit.keeps fun b o e => (e0.bs b o e).1
  refine ks_codeAny_call_defAt (body := F.body) (binds := ps.zip us) hr.depth (KX _ _ lk) rfl lim (PySem.W.codeRec_of KX hcd) rfl hb S.nocell (fun y hy => S.par _ (List.of_mem_zip hy).1) (fun h₁ hns kp => ?_) S.co S.gen S.kind
  obtain ⟨t, ht, hq⟩ := hbody A outer s H vs Q E (hr.deeper _) hsp
  have I : Inv (ncx CX P w K mg base N F f A outer s H E) [] (startF N vs ws) H { s with heap := h₁, toks := s.toks + (ps.zip us).length } := inv_startN S hr.hd e0 hl r (hc s A outer H e0) hns kp
  refine _root_.PySem.wpAt_mono (ht.run [] _ (startF N vs ws) H _ I hq) (fun fl s' hs => ?_) fun e s' hs => hs
  have fin : ∀ {σ' : L2.St} {H' : Hp} {v : V} {u : Value}, Inv (ncx CX P w K mg base N F f A outer s H E) [] σ' H' s' → L2.RelV v u → Q v H' → CE outer P w H s Q u s' :=
    fun {σ' H' v u} J rv q => ⟨v, H', J.os, J.bare, J.base, J.hok, rv, q⟩
  cases fl with
  | ret u =>
    obtain ⟨v, σ', H', J, rv, q⟩ := hs
    exact fin J rv q
  | next =>
    obtain ⟨σ', H', J, q⟩ := hs
    exact fin (v := V.non) (u := Value.none) J rfl q
  | brk =>
    obtain ⟨_, _, _, q⟩ := hs
    exact False.elim q
  | cont =>
    obtain ⟨_, _, _, q⟩ := hs
    exact False.elim q

/-- the cell of `__class__` stands in the written part -/
theorem cells_class {P : Program} {w : World} {K : PySem.W.Frag} {mg : Str → Option Value} {base : Heap} {A : Around} {outer : List Env} {s : Shared} {H : Hp} {cc C : Addr} {cl : Value} {cld : Option Addr} {csl : Array (Option Value)}
    (hk : K.lookup cc = some ⟨cl, cld, .cell (some (.ref C)), csl⟩) (e0 : Env0 P w K mg base A outer s H) : CellsAt [(("__class__" : Str), cc)] [("__class__" : Str)] [some (.ref C)] s.heap H := by
  have hb : base.get? cc = some ⟨cl, cld, .cell (some (.ref C)), csl⟩ := e0.mod.kin _ _ hk
  obtain ⟨h1, h2⟩ := e0.bs _ _ hb
  have one : ∀ y c, List.lookup y [(("__class__" : Str), cc)] = some c → y = ("__class__" : Str) ∧ c = cc := fun y c e => by
    simp only [List.lookup_cons, List.lookup_nil] at e
    split at e
    · rename_i q
      exact ⟨by simpa using q, (Option.some.inj e).symm⟩
    · cases e
  refine ⟨rfl, fun y c e => ?_, fun x y c e1 e2 => (one x c e1).1.trans (one y c e2).1.symm, fun i y e => ?_⟩
  · obtain ⟨_, rfl⟩ := one y c e
    exact ⟨h2, _, _, h1, rfl⟩
  · cases i with
    | zero =>
      have e' : y = ("__class__" : Str) := (Option.some.inj e).symm
      subst e'
      refine ⟨cc, by simp [List.lookup_cons], fun v hv => ?_⟩
      have : v = V.ref C := by
        have := Option.some.inj (Option.some.inj hv)
        exact this.symm
      subst this
      exact ⟨.ref C, rfl, _, h1, rfl⟩
    | succ i => simp at e

/-- what the written part says of a def with super(): its function object, its code's record, the cell of `__class__` (the class at D) -/
structure SupAt (P : Program) (K : PySem.W.Frag) (mg : Str → Option Value) (f cda cc D : Addr) (fd : FuncData) (sf : Str) : Prop where
  fn : ∃ oc od osl, K.lookup f = some ⟨oc, od, .func fd, osl⟩
  par : ∃ ar : Arg, (fd.params.posonlyargs ++ fd.params.args).head? = some ar ∧ ar.arg = sf
  code : ∃ ccl cdd vs ccs file tf, K.lookup cda = some ⟨ccl, cdd, .fields vs, ccs⟩ ∧ vs[2]? = some (.str file tf) ∧ ((P.main.file : Str) == file) = true
  top : (P.main.scope.names.lookup ("super" : Str)).isSome = false
  noSup : mg "super" = none
  cls : ∃ cdD, PySem.W.clsIn K D = some cdD
  thr : PySem.W.nsIn K PySem.cStatics "thirdparty.any" = some none

/-- `super()` evaluated in the body: a new super object for the class D and the instance in slot i -/
theorem sup_base {X : Cx} {body : List Stmt} {p0 p1 : Pos} {attr : Str} {whole : Sem Value} {f cda cc D C a : Addr} {fd : FuncData} {sf : Str} {ox : Obj} {i j : Nat} {pins : List (Addr × Obj)} {s : Shared} {σ : L2.St} {H : Hp} {Q : Value → Shared → Prop}
    (T : SupAt X.prog X.K X.mg f cda cc D fd sf) (hfu : X.env.func = some f) (hco : X.env.code = .ref cda)
    (hks : X.env.kindOf "super" = some .globalImplicit) (hkc : X.env.kindOf "__class__" = some .free) (hka : X.env.kindOf sf = some .local) (hat : (attr == ("__class__" : Str)) = false)
    (hNi : X.N[i]? = some sf) (hNj : X.N[j]? = some ("__class__" : Str)) (hself : σ[i]? = some (some (.ref a))) (hcls : σ[j]? = some (some (.ref D)))
    (I : Inv X pins σ H s) (ho : s.heap.get? a = some ox) (hc : ox.cls = .ref C) (hnc : ∀ c, ox.data ≠ .cls c) (hsub : PySem.W.mroIn X.K C (.ref D) = some true)
    (h : ∀ so h', h'.get? so = some { cls := .type "super", dict := none, data := .fields #[.ref D, .ref a, .ref C], slots := #[] } → Inv X pins σ H { s with heap := h' } → (∀ b o, s.heap.get? b = some o → h'.get? b = some o) → Q (.ref so) { s with heap := h' }) :
    _root_.PySem.wpAt (model X.prog X.w) X.A (.func body X.env) (attributeBase (.Call (.Name "super" p0) [] [] p1) attr X.env whole) Q X.xe s := by
  obtain ⟨oc, od, osl, hf⟩ := T.fn
  obtain ⟨ar, hp, har⟩ := T.par
  obtain ⟨ccl, cdd, vs, ccs, file, tf, hcode, hvs, hfile⟩ := T.code
  obtain ⟨cdD, hD⟩ := T.cls
  have KX := I.kIn
  obtain ⟨mb, hb1, hb2⟩ := I.mod.blt
  obtain ⟨m, hn, hl⟩ := I.loc
  obtain ⟨us, rs, ls⟩ := hl i sf _ hNi hself (.inl hka)
  obtain ⟨uc, rc, lc⟩ := hl j "__class__" _ hNj hcls (.inr (.inr hkc))
  obtain rfl : us = Value.ref a := rs
  obtain rfl : uc = Value.ref D := rc
  have hmself : m sf = some (Value.ref a) := by
    rcases ls with ⟨_, e⟩ | ⟨k, _⟩
    · exact e
    · rcases k with k | k <;> (rw [hka] at k; cases k)
  obtain ⟨c, hcell, hiscell⟩ : ∃ c, X.env.cells.lookup ("__class__" : Str) = some c ∧ s.heap.IsCell c (some (.ref D)) := by
    rcases lc with ⟨k, _⟩ | ⟨_, c, e1, e2⟩
    · rw [hkc] at k; cases k
    · exact ⟨c, e1, e2⟩
  obtain ⟨oD, hD1, hD2⟩ : ∃ oD, s.heap.get? D = some oD ∧ oD.data = .cls cdD := by
    unfold PySem.W.clsIn at hD
    split at hD
    · rename_i c d cd' sl hh
      cases hD
      exact ⟨_, KX _ _ hh, rfl⟩
    · cases hD
  refine ks_wpAt_super_base hks hkc hat hfu (KX _ _ hf) rfl hp hco (KX _ _ hcode) rfl hvs hfile T.top ?_
  refine PySem.W.ks_loadName_global I.ok.kind hks (Calls.loadGlobal_builtin (by rw [I.ok.glob]; exact I.mod.glob.keeps I.bk) T.noSup (by rw [I.ok.blt]; exact hb1.keeps I.bk) ((hb2 _ (by decide +kernel)).trans (by decide +kernel : bootBuiltins "super" = some (.type "super"))) ⟨rfl, ?_⟩)
  refine wpAny_loadName_free I.ok.kind hkc hcell hiscell ?_
  rw [har]
  refine wpAny_loadName_local I.ok.kind hka hn hmself ?_
  refine ks_wpAny_isType_cls hD1 hD2 ⟨rfl, ?_⟩
  obtain ⟨hh, g, d, t, os⟩ := s
  refine ks_wpAny_call_super hD1 hD2 ho hc hnc (PySem.W.looks_mroIn KX hsub) (fun h' e k => ?_)
  exact h _ h' e (I.kept (t' := t) k) k

section
variable {X : Cx} {pins : List (Addr × Obj)} {σ : L2.St} {H : Hp} {s : Shared}
/-- an untracked new object is kept as a pin -/
theorem pin_new {h' : Heap} {q : Addr} {o : Obj} (I : Inv X pins σ H s) (t' : Nat) (k : ∀ b u, s.heap.get? b = some u → h'.get? b = some u) (hq : s.heap.objs.size ≤ q) (ho : h'.get? q = some o) (hd : ∀ v, o.data ≠ .cell v) :
    Inv X ((q, o) :: pins) σ H { s with heap := h', toks := t' } := by
  have J : Inv X pins σ H { s with heap := h', toks := t' } := I.kept (t' := t') k
  refine J.pins_of fun p hp => ?_
  rcases List.mem_cons.mp hp with rfl | hp
  · exact ⟨ho, I.hok.fresh hq, fun z => absurd (Nat.lt_of_lt_of_le I.lt hq) (by rw [← z]; exact Nat.lt_irrefl _), I.nofs hq, hd⟩
  · exact J.pin p (List.mem_append_right _ hp)
theorem unpin {p : Addr × Obj} (I : Inv X (p :: pins) σ H s) : Inv X pins σ H s := I.pins_of fun q hq => I.pin q (List.mem_append_right _ (List.mem_cons_of_mem _ hq))
end

/-- super().__init__(..) of an exception over ValueError that is being made: nothing of it is told -/
def tSupE (i j : Nat) (C D : Addr) (ta : TA) (u : TS) : TS := fun E σ H => ∃ a : Addr, σ[j]? = some (some (.ref D)) ∧ σ[i]? = some (some (.ref a)) ∧ H a = some (exo a C none) ∧
  ta σ H fun vs H1 => vs.length ≤ 1000 ∧ H1 a = some (exo a C none) ∧ u E σ H1
/-- what the written part says of the class C (the body's class is D) for super().__init__ to be ValueError.__init__ -/
structure SupE (K : PySem.W.Frag) (C D : Addr) : Prop where
  ox : OexC K C
  sub : PySem.W.mroIn K C (.ref D) = some true
  sup : PySem.W.ks_superIn K C D "__init__" = some (some (.builtin "ValueError.__init__"))
  ve : PySem.W.subIn K (.ref C) (.type "ValueError") = some true
theorem mw_nocell {i : String} {x : Addr} : ∀ v, (PySem.W.kxs_mw i x).data ≠ .cell v := fun v => by
  unfold PySem.W.kxs_mw
  exact fun z => nomatch z
theorem call_mw {X : Cx} {pins : List (Addr × Obj)} {σ : L2.St} {H : Hp} {s : Shared} {u a C D : Addr} {us : List Value} {Q : Value → Shared → Prop} {E : Value → Shared → Prop} (T : SupE X.K C D) (I : Inv X pins σ H s) (hu : s.heap.get? u = some (PySem.W.kxs_mw "ValueError.__init__" a)) (e : H a = some (exo a C none)) (hl : us.length ≤ sizeLine)
    (h : ∀ s', Inv X pins σ H s' → Q .none s') : wpAny (model X.prog X.w) X.A (call (.ref u) us) Q E s := by
  obtain ⟨nm, q, N, bs, bm, sn, sub, ab, col, dd, k0, k1, k2, k3, k5, hC, hbm⟩ := T.ox.cls
  obtain ⟨t1, ho⟩ := exo_at I.hok e
  have KX := I.kIn
  obtain ⟨hp, g, d, t, os⟩ := s
  refine wpAny_call (codeAny_of_tree ?_)
  show wpAny _ X.A.in1 (callAny (.ref u) ⟨us, []⟩) _ _ _
  simp only [callAny]
  refine wpAny_bind (wpAny_load hu ?_)
  simp only [PySem.W.kxs_mw, show (Value.type "method-wrapper" == Value.type "method" || Value.type "method-wrapper" == Value.type "builtin_function_or_method" || Value.type "method-wrapper" == Value.type "method-wrapper") = true by decide, if_true]
  refine PySem.W.KFB.if_so (by decide) ?_
  refine wpAny_bind (PySem.W.check_bound_init F.excBase_ValueError.toExcCallFacts (KX _ _ hC) ho rfl ?_)
  refine wpAny_bind (wpAny_pure (wpAny_pure ?_))
  refine ⟨PySem.plainId_quiet F.excBase_ValueError.init.plain _, codeAny_builtin F.excBase_ValueError.initEntry ?_⟩
  refine PySem.W.exc_init_tree (cls := .ref C) (t0 := t1) (dv := none) (c2 := .none) (c3 := .none) (b4 := .bool false) ho hl fun h' k hx _ => ?_
  have J := I.write (t' := t) (x := a) (e := a) (o := exo a C none) (by rw [e]; exact True.intro) (.inl rfl) k ⟨_, hx⟩ (exo_ok hx)
  have eu : upd H a (exo a C none) = H := by
    funext b
    by_cases hb : b = a
    · rw [hb, upd_same, e]
    · rw [upd_ne hb]
  rw [eu] at J
  exact h _ J
theorem psa_superE {X : Cx} {body : List Stmt} {rest : List Stmt} {p0 p1 p2 p3 p4 : Pos} {f cda cc C D : Addr} {fd : FuncData} {sf : Str} {i j : Nat} {e : Expr} {es : List Expr} {ta : TA} {u : TS} {pl : Sem Bool}
    (T : SupAt X.prog X.K X.mg f cda cc D fd sf) (S : SupE X.K C D) (hfu : X.env.func = some f) (hco : X.env.code = .ref cda)
    (hks : X.env.kindOf "super" = some .globalImplicit) (hkc : X.env.kindOf "__class__" = some .free) (hka : X.env.kindOf sf = some .local)
    (hNi : X.N[i]? = some sf) (hNj : X.N[j]? = some ("__class__" : Str))
    (ha : PA X (e :: es) ta) (hr : PSA X (.func body X.env) rest u)
    (hi : interactive X.env = false := by rfl) (hs : swapsWith (.Call (.Attribute (.Call (.Name "super" p0) [] [] p1) "__init__" p2) (e :: es) [] p3) none p4.line X.env = pure false := by rfl)
    (he : starEach (e :: es) X.env = (false, eval e X.env) :: starEach es X.env := by rfl) (hpl : (backTo p3 (starEach es X.env)).any (·.1) = false := by rfl)
    (hev : eval (.Call (.Attribute (.Call (.Name "super" p0) [] [] p1) "__init__" p2) (e :: es) [] p3) X.env = (do
      let ov ← attributeBase (.Call (.Name "super" p0) [] [] p1) "__init__" X.env (eval (.Call (.Name "super" p0) [] [] p1) X.env)
      standAt p2.atName
      let (f, first) ← holding [ov] (getMethod ov "__init__" pl)
      callWith p3 f first (backTo p3 (starEach (e :: es) X.env)) []) := by rfl) :
    PSA X (.func body X.env) (.Expr (.Call (.Attribute (.Call (.Name "super" p0) [] [] p1) "__init__" p2) (e :: es) [] p3) p4 :: rest)
      (tSupE i j C D ta u) := by
  refine ⟨fun pins s σ H D' I q => ?_⟩
  obtain ⟨a, hcls, hself, ea, q⟩ := q
  obtain ⟨nm, qn, N', bs, bm, sn, sub, ab, col, dd, k0, k1, k2, k3, k5, hCl, hbm⟩ := S.ox.cls
  obtain ⟨t1, ho⟩ := exo_at I.hok ea
  have hcl : PySem.W.clsIn X.K C = some { name := nm, bases := bs, mro := .ref C :: bm, ns := N', qualname := qn, hasDict := true, slotNames := sn, subclasses := sub, abstract := ab, collection := col, hasDel := false } := by unfold PySem.W.clsIn; rw [hCl] <;> rfl
  refine ks_wpAt_execs_cons (ks_wpAt_Expr_any ?_ hi hs)
  refine ks_wpAt_MethodCall (pl := pl) ?_ hev
  refine sup_base T hfu hco hks hkc hka (by decide) hNi hNj hself hcls I ho rfl (fun c => by exact fun z => nomatch z) S.sub fun so h' hso J k => ?_
  have KJ := J.kIn
  have hoJ : h'.get? a = some ({ cls := .ref C, dict := none, data := .fields #[.ref t1, .none, .none, .none, .bool false, .none] } : Obj) := k _ _ ho
  have IA : PySem.W.InstAt h' a { cls := .ref C, dict := none, data := .fields #[.ref t1, .none, .none, .none, .bool false, .none] } C none := ⟨hoJ, rfl, rfl, trivial⟩
  have hf := S.sup
  unfold PySem.W.ks_superIn at hf
  rw [hcl] at hf
  obtain ⟨hh, g, d, t, os⟩ := s
  refine PySem.W.kxs_getMethod PySem.W.kxs_ValueError hso (PySem.W.looks_opaque KJ T.thr) ((PySem.W.looks_clsIn KJ hcl).andThen .now) rfl KJ hf (IA.type.andThen (PySem.W.looks_subIn KJ S.ve)) (PySem.W.ks_ne KJ IA hcl) (by decide) ?_
  have J2 := pin_new (t' := t + 1) J (h' := h'.push (PySem.W.kxs_mw "ValueError.__init__" a)) (q := h'.objs.size) (o := PySem.W.kxs_mw "ValueError.__init__" a) (fun b u e => Heap.get?_push_of_some _ e) (Nat.le_refl _) (Heap.get?_push_at rfl rfl) mw_nocell
  rw [he]
  refine PySem.W.kxs_callWith (i := "ValueError.__init__") (x := a) (by show (false || (backTo p3 (starEach es X.env)).any (·.1)) = false; rw [hpl]; rfl) ?_
  refine Calls.evalArgs_plain ?_
  have hrun := ha.run p3 _ _ σ H _ J2 q
  rw [he] at hrun
  refine thn hrun fun us s1 ⟨vs, H1, I1, r1, hl, ea1, q1⟩ => ?_
  have hu : s1.heap.get? h'.objs.size = some (PySem.W.kxs_mw "ValueError.__init__" a) := (I1.pin (h'.objs.size, PySem.W.kxs_mw "ValueError.__init__" a) (List.mem_append_right _ List.mem_cons_self)).1
  refine ⟨hu, call_mw S (unpin I1) hu ea1 (by
    show ([] ++ us).length ≤ sizeLine
    rw [List.nil_append, ← Paired.length r1, sizeLine_eq]
    omega) fun s' J' => ?_⟩
  exact hr.run pins s' σ H1 D' J' q1

/-! ## the own exceptions: super().__init__('..'); self.f = f; (self.g = g) -/
/-- the body's text -/
def exB1 (txt f : Str) (b : List Stmt) : Prop := ∃ p0 p1 p2 p3 p4 p5 p6 p7 p8 p9 ck, (∀ env : Env, ∃ pl, eval (.Call (.Attribute (.Call (.Name "super" p0) [] [] p1) "__init__" p2) [.Constant (.str txt) ck p5] [] p3) env = (do
      let ov ← attributeBase (.Call (.Name "super" p0) [] [] p1) "__init__" env (eval (.Call (.Name "super" p0) [] [] p1) env)
      standAt p2.atName
      let (f, first) ← holding [ov] (getMethod ov "__init__" pl)
      callWith p3 f first (backTo p3 (starEach [.Constant (.str txt) ck p5] env)) [])) ∧ b = [.Expr (.Call (.Attribute (.Call (.Name "super" p0) [] [] p1) "__init__" p2) [.Constant (.str txt) ck p5] [] p3) p4, .Assign [.Attribute (.Name "self" p6) f p7] (.Name f p8) p9]
def exB2 (txt f g : Str) (b : List Stmt) : Prop := ∃ p0 p1 p2 p3 p4 p5 p6 p7 p8 p9 q6 q7 q8 q9 ck, (∀ env : Env, ∃ pl, eval (.Call (.Attribute (.Call (.Name "super" p0) [] [] p1) "__init__" p2) [.Constant (.str txt) ck p5] [] p3) env = (do
      let ov ← attributeBase (.Call (.Name "super" p0) [] [] p1) "__init__" env (eval (.Call (.Name "super" p0) [] [] p1) env)
      standAt p2.atName
      let (f, first) ← holding [ov] (getMethod ov "__init__" pl)
      callWith p3 f first (backTo p3 (starEach [.Constant (.str txt) ck p5] env)) [])) ∧ b = [.Expr (.Call (.Attribute (.Call (.Name "super" p0) [] [] p1) "__init__" p2) [.Constant (.str txt) ck p5] [] p3) p4, .Assign [.Attribute (.Name "self" p6) f p7] (.Name f p8) p9, .Assign [.Attribute (.Name "self" q6) g q7] (.Name g q8) q9]
/-- the exception C(v): its own dict d, new, holds the field -/
def spEx1 (C : Addr) (f : Str) : Sp := fun vs H Q _ => ∃ (a : Addr) (v : V), vs = [.ref a, v] ∧ H a = some (exo a C none) ∧
  ∀ d, H d = none → d ≠ a → Q .non (upd (upd H d (exd d [(f, v)])) a (exo a C (some d)))
def spEx2 (C : Addr) (f g : Str) : Sp := fun vs H Q _ => ∃ (a : Addr) (v w : V), vs = [.ref a, v, w] ∧ H a = some (exo a C none) ∧
  ∀ d, H d = none → d ≠ a → Q .non (upd (upd (upd H d (exd d [(f, v)])) a (exo a C (some d))) d (exd d [(g, w), (f, v)]))
abbrev scOf (nm : List (Str × NameKind)) : Scope := { kind := .function, names := nm, isGenerator := false, isCoroutine := false, more := [] }
/-- the scope's words -/
def exSc (sc : Scope) : Bool := decide (sc.names.lookup ("super" : Str) = some .globalImplicit) && decide (sc.names.lookup ("__class__" : Str) = some .free) && decide (sc.names.lookup ("self" : Str) = some .local)
section
variable {P : Program} {w : World} {K : PySem.W.Frag} {mg : Str → Option Value} {base : Heap} {CX : CXT} {fI cda cc C : Addr} {ar : Arguments} {bd : List Stmt} {nm : List (Str × NameKind)} {qual txt f g : Str} {dV kV doc pm ct oc : Value} {an od : Option Addr} {osl : Array (Option Value)}
theorem ok_ex1 (lk : K.lookup fI = some ⟨oc, od, .func (PySem.W.fnX "__init__" qual ar bd (scOf nm) [("__class__", cc)] dV kV doc pm an (.ref cda) ct), osl⟩) (hcd : PySem.W.codeIn K (.ref cda) qual = true)
    (S : NScope ["self", f, "__class__"] ["self", f] ["__class__"] (scOf nm)) (hsc : exSc (scOf nm) = true) (hb : exB1 txt f bd)
    (T : SupAt P K mg fI cda cc C (PySem.W.fnX "__init__" qual ar bd (scOf nm) [("__class__", cc)] dV kV doc pm an (.ref cda) ct) "self") (TE : SupE K C C)
    (hcell : ∃ cl cld csl, K.lookup cc = some ⟨cl, cld, .cell (some (.ref C)), csl⟩) (noF : PySem.W.findIn K (.ref C) f = some none)
    (hd1 : (f == ("__debug__" : Str)) = false) (hd2 : (f == ("__classdict__" : Str)) = false) :
    FnOk P w K mg base CX 1 fI (PySem.W.fnX "__init__" qual ar bd (scOf nm) [("__class__", cc)] dV kV doc pm an (.ref cda) ct) ["self", f] (spEx1 C f) := by
  obtain ⟨cl, cld, csl, hcell⟩ := hcell
  obtain ⟨p0, p1, p2, p3, p4, p5, p6, p7, p8, p9, ck, hev, hb⟩ := hb
  unfold exSc at hsc
  simp only [Bool.and_eq_true, decide_eq_true_eq] at hsc
  obtain ⟨⟨h1, h2⟩, h3⟩ := hsc
  have h4 : (scOf nm).names.lookup f = some .local := S.par f (by simp)
  have hne : f ≠ ("__class__" : Str) := fun z => by rw [z, h2] at h4; cases h4
  refine fn_ofA (k := 0) (F := ⟨"__init__", qual, ar, bd, scOf nm, [("__class__", cc)], cda⟩) (ws := [some (.ref C)]) lk hcd S (fun s A outer H e0 => cells_class hcell e0) (fun vs H Q E h => ?_) (fun A outer s H vs Q E hr h => ?_)
  · obtain ⟨a, v, rfl, _⟩ := h
    rfl
  · obtain ⟨a, v, rfl, ea, q⟩ := h
    subst hb
    show ∃ t, PSA _ _ _ t ∧ _
    obtain ⟨pl, hev⟩ := hev (envF ⟨"__init__", qual, ar, _, scOf nm, [("__class__", cc)], cda⟩ fI s.heap.objs.size)
    refine ⟨_, psa_superE (X := ncx CX P w K mg base ["self", f, "__class__"] ⟨"__init__", qual, ar, _, scOf nm, [("__class__", cc)], cda⟩ fI A outer s H E) (i := 0) (j := 2) (C := C) T TE rfl rfl h1 h2 h3 rfl rfl
      (pa_cons pe_str pa_nil) (psa_of (pss_one (ps_ost (pe_var (i := 0) rfl (.inl h3)) (pe_var (i := 1) rfl (.inl h4) hd1 hd2)))) (hev := hev), ?_⟩
    refine ⟨a, rfl, rfl, ea, (by show 1 ≤ 1000; decide), ea, ?_⟩
    exact ⟨_, rfl, _, rfl, a, C, rfl, TE.ox, noF, .inl ⟨ea, fun dx n ne => q dx n ne⟩⟩
theorem ok_ex2 (lk : K.lookup fI = some ⟨oc, od, .func (PySem.W.fnX "__init__" qual ar bd (scOf nm) [("__class__", cc)] dV kV doc pm an (.ref cda) ct), osl⟩) (hcd : PySem.W.codeIn K (.ref cda) qual = true)
    (S : NScope ["self", f, g, "__class__"] ["self", f, g] ["__class__"] (scOf nm)) (hsc : exSc (scOf nm) = true) (hb : exB2 txt f g bd)
    (T : SupAt P K mg fI cda cc C (PySem.W.fnX "__init__" qual ar bd (scOf nm) [("__class__", cc)] dV kV doc pm an (.ref cda) ct) "self") (TE : SupE K C C)
    (hcell : ∃ cl cld csl, K.lookup cc = some ⟨cl, cld, .cell (some (.ref C)), csl⟩) (noF : PySem.W.findIn K (.ref C) f = some none) (noG : PySem.W.findIn K (.ref C) g = some none)
    (hd1 : (f == ("__debug__" : Str)) = false) (hd2 : (f == ("__classdict__" : Str)) = false) (hd3 : (g == ("__debug__" : Str)) = false) (hd4 : (g == ("__classdict__" : Str)) = false) :
    FnOk P w K mg base CX 1 fI (PySem.W.fnX "__init__" qual ar bd (scOf nm) [("__class__", cc)] dV kV doc pm an (.ref cda) ct) ["self", f, g] (spEx2 C f g) := by
  obtain ⟨cl, cld, csl, hcell⟩ := hcell
  obtain ⟨p0, p1, p2, p3, p4, p5, p6, p7, p8, p9, q6, q7, q8, q9, ck, hev, hb⟩ := hb
  unfold exSc at hsc
  simp only [Bool.and_eq_true, decide_eq_true_eq] at hsc
  obtain ⟨⟨h1, h2⟩, h3⟩ := hsc
  have h4 : (scOf nm).names.lookup f = some .local := S.par f (by simp)
  have h5 : (scOf nm).names.lookup g = some .local := S.par g (by simp)
  refine fn_ofA (k := 0) (F := ⟨"__init__", qual, ar, bd, scOf nm, [("__class__", cc)], cda⟩) (ws := [some (.ref C)]) lk hcd S (fun s A outer H e0 => cells_class hcell e0) (fun vs H Q E h => ?_) (fun A outer s H vs Q E hr h => ?_)
  · obtain ⟨a, v, w, rfl, _⟩ := h
    rfl
  · obtain ⟨a, v, z, rfl, ea, q⟩ := h
    subst hb
    show ∃ t, PSA _ _ _ t ∧ _
    obtain ⟨pl, hev⟩ := hev (envF ⟨"__init__", qual, ar, _, scOf nm, [("__class__", cc)], cda⟩ fI s.heap.objs.size)
    refine ⟨_, psa_superE (X := ncx CX P w K mg base ["self", f, g, "__class__"] ⟨"__init__", qual, ar, _, scOf nm, [("__class__", cc)], cda⟩ fI A outer s H E) (i := 0) (j := 3) (C := C) T TE rfl rfl h1 h2 h3 rfl rfl
      (pa_cons pe_str pa_nil) (psa_of (pss_cons (ps_ost (pe_var (i := 0) rfl (.inl h3)) (pe_var (i := 1) rfl (.inl h4) hd1 hd2)) (pss_one (ps_ost (pe_var (i := 0) rfl (.inl h3)) (pe_var (i := 2) rfl (.inl h5) hd3 hd4))))) (hev := hev), ?_⟩
    refine ⟨a, rfl, rfl, ea, (by show 1 ≤ 1000; decide), ea, ?_⟩
    refine ⟨_, rfl, _, rfl, a, C, rfl, TE.ox, noF, .inl ⟨ea, fun dx n ne => ?_⟩⟩
    refine ⟨_, rfl, _, rfl, a, C, rfl, TE.ox, noG, .inr ⟨dx, _, upd_same, (upd_ne ne).trans upd_same, (by show 1 ≤ 900; decide), q dx n ne⟩⟩
end

/-! ### raise C(v), raise C(v, w) -/
/-- what a raise of the class x asks of the written part -/
structure Ex1 (P : Program) (K : PySem.W.Frag) (mg : Str → Option Value) (x f : Str) (C : Addr) : Prop where
  gl : mg x = some (.ref C)
  te : SupE K C C
  init : ∃ fI fd, PySem.W.findIn K (.ref C) "__init__" = some (some (.ref fI)) ∧ PySem.W.typeIn K (.ref fI) = some (.type "function") ∧ L2.Binds K fd ["self", f] [] ∧
    ∀ (w : World) (base : Heap) (CX : CXT), FnOk P w K mg base CX 1 fI fd ["self", f] (spEx1 C f)
structure Ex2 (P : Program) (K : PySem.W.Frag) (mg : Str → Option Value) (x f g : Str) (C : Addr) : Prop where
  gl : mg x = some (.ref C)
  te : SupE K C C
  init : ∃ fI fd, PySem.W.findIn K (.ref C) "__init__" = some (some (.ref fI)) ∧ PySem.W.typeIn K (.ref fI) = some (.type "function") ∧ L2.Binds K fd ["self", f, g] [] ∧
    ∀ (w : World) (base : Heap) (CX : CXT), FnOk P w K mg base CX 1 fI fd ["self", f, g] (spEx2 C f g)
def tMk1 (C : Addr) (f : Str) (ta : TA) : L2.St → Hp → XK → Prop := fun σ H Q => ta σ H fun vs H1 => ∃ v, vs = [v] ∧ ∀ d, H1 d = none → Q (.ref C) (some d) (upd H1 d (.xd [(f, v)]))
def tMk2 (C : Addr) (f g : Str) (ta : TA) : L2.St → Hp → XK → Prop := fun σ H Q => ta σ H fun vs H1 => ∃ v w, vs = [v, w] ∧ ∀ d, H1 d = none → Q (.ref C) (some d) (upd H1 d (.xd [(g, w), (f, v)]))
theorem end_heap {H G : Hp} {a d : Addr} {fs : List (Str × V)} (na : H a = none) (ne : d ≠ a) (hG : ∀ b, b ≠ a → b ≠ d → G b = H b) : upd (del G a) d (.xd fs) = upd H d (.xd fs) := by
  funext b
  by_cases hb : b = d
  · rw [hb, upd_same, upd_same]
  · rw [upd_ne hb, upd_ne hb]
    by_cases ha : b = a
    · rw [ha, del_same, na]
    · rw [del_ne ha, hG b ha hb]
/-- an own error is made; its context is None -/
theorem pmkN_oex {X : Cx} {x : Str} {C fI : Addr} {k : Nat} {fd : FuncData} {ps : List Str} {sp : Sp} {e : Expr} {es : List Expr} {ta : TA} {p pos : Pos} (S : OexC X.K C) (hI : PySem.W.findIn X.K (.ref C) "__init__" = some (some (.ref fI)))
    (hT : PySem.W.typeIn X.K (.ref fI) = some (.type "function")) (Fi : FnOk X.prog X.w X.K X.mg X.base CX0 k fI fd ps sp) (hr : Room (k + 1) X.A) (hb : L2.Binds X.K fd ps []) (hg : Gl X x) (hm : X.mg x = some (.ref C)) (ha : PA X (e :: es) ta)
    (hdb : (x == ("__debug__" : Str)) = false) (he : starEach (e :: es) X.env = (false, eval e X.env) :: starEach es X.env) (hpl : (backTo pos (starEach es X.env)).any (·.1) = false) :
    L2N.PMk X (.Call (.Name x p) (e :: es) [] pos) (tMkO C sp [] ta) := fun pins s σ H Q I h => by
  obtain ⟨c1, c2, c3, c4, c5, c6, c7, c8, c9, c10, c11, c12, c13, c14, c15, hC, hB⟩ := S.cls
  apply wpAny_Call_Name_kw
  apply ld_glob I hg hm _ hdb
  refine PySem.W.callWith_K (h₀ := X.base) I.ok.mod.kin S.kC ?_ he hpl
  refine thn (ha.run pos pins s σ H _ I h) ?_
  rintro us ⟨h0, g, dr, tk, os⟩ ⟨vs, H1, I1, rv, hz, mk⟩
  refine ⟨I1.kIn, ?_⟩
  show wpAny _ _ (call (.ref C) us) _ _ _
  -- the new object's place
  generalize hn : h0.objs.size + 1 = n
  have big : h0.objs.size ≤ n := by omega
  have free : H1 n = none := I1.hok.fresh big
  have pr := mk n free
  let h1 := (h0.push (PySem.W.kdv_tup us)).push (PySem.HandSPX.excO C h0.objs.size)
  have old : ∀ b o, h0.get? b = some o → h1.get? b = some o := fun b o z => Heap.get?_push_of_some _ (Heap.get?_push_of_some _ z)
  have there : h1.get? n = some (PySem.HandSPX.excO C h0.objs.size) := by
    subst hn
    show ((h0.push (PySem.W.kdv_tup us)).push (PySem.HandSPX.excO C h0.objs.size)).get? (h0.objs.size + 1) = _
    heap_get
  have I2 : Inv X pins σ (upd H1 n (exo n C none)) ⟨h1, g, dr, tk, os⟩ := I1.laid (t' := tk) old big (exo_ok there)
  have r2 : Vals (V.ref n :: (vs ++ [])) (Value.ref n :: (us ++ [])) := .cons rfl (rv.append .nil)
  have len : ((Value.ref n :: us) ++ []).length = ps.length := by
    rw [← Fi.len _ _ _ _ pr]
    exact r2.length.symm
  have few : us.length ≤ sizeLine := by
    have := rv.length
    rw [sizeLine_eq]
    omega
  subst hn
  refine wpAny_call (PySem.HandSPX.call_own F.excBase_ValueError (fun Y => PySem.HandSPX.refsVE_contains Y c5 hB) (I1.kIn _ _ hC) (PySem.W.looks_findIn I1.kIn hI) (fun self => PySem.W.bind_fn I1.kIn self hT) few ?_)
  refine codeAny_mono (Fi.run _ X.stack _ _ _ _ _ _ _ (hr.make C us []) (I2.env0.make C us []) (hb _ _ I2.kIn len) r2 pr) fun r s' done => ?_
  match r, done with
  | .error er, done => exact pass0 pins σ _ _ er s' I2 done
  | .ok .next, done => exact done.elim
  | .ok .brk, done => exact done.elim
  | .ok .cont, done => exact done.elim
  | .ok (.ret u), ⟨v, H2, os2, bare2, un2, hok2, rv2, isN, d, fs, ea, ed, new, last⟩ =>
    subst isN
    obtain ⟨h2, g2, d2, t2, os3⟩ := s'
    obtain ⟨t0, G, J, kG, goneA, atA, na⟩ := mk_end0 (d2 := d2) (t2 := t2) I1 big old un2 hok2 os2 bare2 ea ed new
    exact ⟨rv2, ⟨_, _, _, ⟨G, g2, d2, t2, os3⟩, _, .ref C, some d, rfl, J, kG, goneA, atA, ⟨rfl, rfl, fun ws z => by cases z; rfl⟩, rfl, rfl, na, rfl, bare2, raises_own S.exC S.tyC, last⟩⟩
theorem PMk.imp {X : Cx} {e : Expr} {t u : L2.St → Hp → XK → Prop} (h : L2N.PMk X e t) (q : ∀ σ H Q, u σ H Q → t σ H Q) : L2N.PMk X e u := fun pins s σ H Q I x => h pins s σ H Q I (q σ H Q x)
/-- an argument list's own weakest reading -/
def wpA (X : Cx) (es : List Expr) : TA := fun σ H Q => ∀ (pos : Pos) (pins : List (Addr × Obj)) (s : Shared), Inv X pins σ H s → wpAny (model X.prog X.w) X.A (spliced (backTo pos (starEach es X.env))) (AP X pins σ Q) X.xe s
theorem pa_wp {X : Cx} {es : List Expr} : PA X es (wpA X es) := ⟨fun pos pins s σ H Q I h => h pos pins s I⟩
theorem pmk_1 {X : Cx} {x f : Str} {C : Addr} {e : Expr} {ta : TA} {p pos : Pos} (T : Ex1 X.prog X.K X.mg x f C) (hr : Room 2 X.A) (hg : Gl X x) (ha : PA X [e] ta)
    (hdb : (x == ("__debug__" : Str)) = false := by decide) (he : starEach [e] X.env = (false, eval e X.env) :: starEach [] X.env := by rfl) (hpl : (backTo pos (starEach [] X.env)).any (·.1) = false := by rfl) :
    L2N.PMk X (.Call (.Name x p) [e] [] pos) (tMk1 C f ta) := by
  obtain ⟨fI, fd, iC, tI, b, F⟩ := T.init
  refine PMk.imp (pmkN_oex T.te.ox iC tI (F X.w X.base CX0) hr b hg T.gl (pa_wp (X := X) (es := [e])) hdb he hpl) fun σ H Q h => ?_
  intro pos' pins s I
  refine thn (ha.run pos' pins s σ H _ I h) fun us s1 ⟨vs, H1, I1, r1, v, ev, q⟩ => ⟨vs, H1, I1, r1, ?_⟩
  subst ev
  refine ⟨(by show 1 ≤ 1000; decide), fun a na => ⟨a, v, rfl, upd_same, fun d hd ne => ⟨rfl, d, [(f, v)], upd_same, (upd_ne ne).trans upd_same, (upd_ne ne).symm.trans hd, ?_⟩⟩⟩
  rw [end_heap na ne fun b h1 h2 => by rw [upd_ne h1, upd_ne h2, upd_ne h1]]
  exact q d ((upd_ne ne).symm.trans hd)
theorem pmk_2 {X : Cx} {x f g : Str} {C : Addr} {e e2 : Expr} {ta : TA} {p pos : Pos} (T : Ex2 X.prog X.K X.mg x f g C) (hr : Room 2 X.A) (hg : Gl X x) (ha : PA X [e, e2] ta)
    (hdb : (x == ("__debug__" : Str)) = false := by decide) (he : starEach [e, e2] X.env = (false, eval e X.env) :: starEach [e2] X.env := by rfl) (hpl : (backTo pos (starEach [e2] X.env)).any (·.1) = false := by rfl) :
    L2N.PMk X (.Call (.Name x p) [e, e2] [] pos) (tMk2 C f g ta) := by
  obtain ⟨fI, fd, iC, tI, b, F⟩ := T.init
  refine PMk.imp (pmkN_oex T.te.ox iC tI (F X.w X.base CX0) hr b hg T.gl (pa_wp (X := X) (es := [e, e2])) hdb he hpl) fun σ H Q h => ?_
  intro pos' pins s I
  refine thn (ha.run pos' pins s σ H _ I h) fun us s1 ⟨vs, H1, I1, r1, v, w, ev, q⟩ => ⟨vs, H1, I1, r1, ?_⟩
  subst ev
  refine ⟨(by show 2 ≤ 1000; decide), fun a na => ⟨a, v, w, rfl, upd_same, fun d hd ne => ⟨rfl, d, [(g, w), (f, v)], (upd_ne ne.symm).trans upd_same, upd_same, (upd_ne ne).symm.trans hd, ?_⟩⟩⟩
  rw [end_heap na ne fun b h1 h2 => by rw [upd_ne h2, upd_ne h1, upd_ne h2, upd_ne h1]]
  exact q d ((upd_ne ne).symm.trans hd)
end Sup

namespace Own
open PySem PySem.Spec PyProof.Rows L2

/-! ## operators of own classes -/
/-- x op y, both instances of the class at C: the method's promise -/
def rOwn (C : Addr) (sp : Sp) (E : XK) : R2 := fun x y H Q => ∃ a dx fs b dy gs, x = .ref a ∧ y = .ref b ∧ H a = some (.ins C dx fs) ∧ H b = some (.ins C dy gs) ∧ sp [x, y] H Q E
theorem back_of {Q : Value → Shared → Prop} {v : V} {u : Value} {s : Shared} (r : RelV v u) (h : Q u s) : PySem.W.CmpBack Q u s := by
  cases v <;> first
    | (obtain ⟨t, rfl⟩ := r; exact h)
    | (cases r; exact h)
theorem op_own {X : Cx} {CX : CXT} {C f : Addr} {op : Operator} {k : Nat} {fd : FuncData} {ps : List Str} {sp : Sp} {E : XK} (hc : PySem.W.selfFirst X.K C = true) (hs : PySem.W.findIn X.K (.ref C) (PySem.dunder op.info.2) = some (some (.ref f))) (hf : PySem.W.isFn X.K (.ref f) = true)
    (F : FnOk X.prog X.w X.K X.mg X.base CX k f fd ps sp) (hr : Room k X.A) (hb : L2.Binds X.K fd ps []) (hx : Passes CX X E) : OpR X (binaryOp op) (rOwn C sp E) := by
  intro pins s σ H x y v u Q I rx ry h
  obtain ⟨a, dx, fs, b, dy, gs, rfl, rfl, ea, eb, q⟩ := h
  cases rx
  cases ry
  obtain ⟨mA, Oa, _⟩ := ins_get I.hok ea
  obtain ⟨mB, Ob, _⟩ := ins_get I.hok eb
  obtain ⟨od, Ja, _⟩ := Oa.look
  obtain ⟨od2, Jb, _⟩ := Ob.look
  obtain ⟨m, fr⟩ := I.fr
  refine PySem.W.binop_K fr I.ok.mod.kin Ja Jb.type hc hs hf ?_
  refine thn (run_fn (us := [.ref a, .ref b]) (vs := [.ref a, .ref b]) F hr hb .nil hx I (.cons rfl (.cons rfl .nil)) q) fun r s' ⟨v', H', I', r', q'⟩ => back_of r' ⟨v', H', I', r', q'⟩
/-- x in y, x not in y; y an instance whose class has __contains__, which gives a bool -/
def rOwnIn (C : Addr) (sp : Sp) (E : XK) (neg : Bool) : R2 := fun x y H Q => ∃ b dy gs, y = .ref b ∧ H b = some (.ins C dy gs) ∧ sp [y, x] H (fun v H' => ∃ c, v = .bl c ∧ Q (.bl (if neg then !c else c)) H') E
theorem op_ownIn {X : Cx} {CX : CXT} {C f : Addr} {k : Nat} {fd : FuncData} {ps : List Str} {sp : Sp} {E : XK} (hs : PySem.W.findIn X.K (.ref C) "__contains__" = some (some (.ref f))) (hf : PySem.W.isFn X.K (.ref f) = true)
    (F : FnOk X.prog X.w X.K X.mg X.base CX k f fd ps sp) (hr : Room k X.A) (hb : L2.Binds X.K fd ps []) (hx : Passes CX X E) : OpR X (compareOp .In) (rOwnIn C sp E false) := by
  intro pins s σ H x y v u Q I rx ry h
  obtain ⟨b, dy, gs, rfl, eb, q⟩ := h
  cases ry
  obtain ⟨mB, Ob, _⟩ := ins_get I.hok eb
  obtain ⟨od2, Jb, _⟩ := Ob.look
  obtain ⟨m, fr⟩ := I.fr
  refine PySem.W.in_K fr I.ok.mod.kin Jb hs hf ?_
  refine thn (run_fn (us := [.ref b, v]) (vs := [.ref b, x]) F hr hb .nil hx I (.cons rfl (.cons rx .nil)) q) fun r s' ⟨v', H', I', r', c, ev, q'⟩ => ?_
  subst ev
  cases r'
  exact wpAny_truthy_bool ⟨.bl _, H', I', rfl, q'⟩
theorem op_ownNotIn {X : Cx} {CX : CXT} {C f : Addr} {k : Nat} {fd : FuncData} {ps : List Str} {sp : Sp} {E : XK} (hs : PySem.W.findIn X.K (.ref C) "__contains__" = some (some (.ref f))) (hf : PySem.W.isFn X.K (.ref f) = true)
    (F : FnOk X.prog X.w X.K X.mg X.base CX k f fd ps sp) (hr : Room k X.A) (hb : L2.Binds X.K fd ps []) (hx : Passes CX X E) : OpR X (compareOp .NotIn) (rOwnIn C sp E true) := by
  intro pins s σ H x y v u Q I rx ry h
  obtain ⟨b, dy, gs, rfl, eb, q⟩ := h
  cases ry
  obtain ⟨mB, Ob, _⟩ := ins_get I.hok eb
  obtain ⟨od2, Jb, _⟩ := Ob.look
  obtain ⟨m, fr⟩ := I.fr
  refine PySem.W.notIn_K fr I.ok.mod.kin Jb hs hf ?_
  refine thn (run_fn (us := [.ref b, v]) (vs := [.ref b, x]) F hr hb .nil hx I (.cons rfl (.cons rx .nil)) q) fun r s' ⟨v', H', I', r', c, ev, q'⟩ => ?_
  subst ev
  cases r'
  exact wpAny_truthy_bool ⟨.bl _, H', I', rfl, q'⟩

/-! ## for x in o, o an instance whose __iter__ hands out iter(self.f), f a list -/
/-- one run of a def by its body: the wish may speak of the state at the entry -/
theorem run_body {CX : CXT} {P : Program} {w : World} {K : PySem.W.Frag} {mg : Str → Option Value} {base : Heap} {k : Nat} {f : Addr} {name qual : Str} {params : Arguments} {body : List Stmt} {scope : Scope} {dV kV doc pm cdv ct oc : Value} {an od : Option Addr}
    {osl : Array (Option Value)} {N ps : List Str} (lk : K.lookup f = some ⟨oc, od, .func (PySem.W.fnOf name qual params body scope dV kV doc pm an cdv ct), osl⟩) (hcd : PySem.W.codeIn K cdv qual = true) (S : FnScope N ps scope)
    {A : Around} {outer : List Env} {s : Shared} {H : Hp} {args : Args} {us : List Value} {vs : List V} {Q : VK} {E : XK} {t : TS} (hr : Room (k + 1) A) (e0 : Env0 P w K mg base A outer s H) (hb : BindsTo s (PySem.W.fnOf name qual params body scope dV kV doc pm an cdv ct) args (ps.zip us)) (r : Vals vs us) (hl : vs.length = ps.length)
    (ht : PSs (cxOf CX P w K mg base N qual scope f cdv A outer s H E) body t) (hq : t { nx := fun _ H' => Q .non H', rt := Q } (start N vs) H) :
    codeAny (model P w) A (.call (.ref f) args) (CR CX outer P w H s Q E) s := by
  have KX : K.In s.heap := e0.mod.kin.keeps fun b o e => (e0.bs b o e).1
  have lim : s.heap.NoLimit := e0.mod.nolimit.keeps fun b o e => (e0.bs b o e).1
  have hkind : ∀ y ∈ ps.zip us, scope.names.lookup y.1 = some .local ∨ (scope.names.lookup y.1 = some .cell ∧ ((cellsFrom (s.heap.objs.size + 1) scope.names []).lookup y.1).isSome = true) := fun y hy =>
    (S.par y.1 (List.of_mem_zip hy).1).elim .inl fun q => .inr ⟨q, PySem.W.cellsFrom_some _ _ _ (.inl q)⟩
  refine codeAny_call_function hr.depth (KX _ _ lk) rfl S.co S.gen rfl (PySem.W.codeRec_of KX hcd) (hb _ _ _ _ ?_)
  refine wpAny_newFunctionEnv_cells S.kind hkind fun env he s1 x => ?_
  subst he
  refine ⟨lim.keeps x.toInCall.keep, codeAny_func ?_⟩
  have I : Inv (cxOf CX P w K mg base N qual scope f cdv A outer s H E) [] (start N vs) H s1 := inv_start S hr.hd e0 hl r x
  refine wpAny_mono (ht.run [] s1 (start N vs) H _ I hq) (fun fl s' hs => ?_) fun e s' hs => hs
  cases fl with
  | ret u =>
    obtain ⟨v, σ', H', J, rv, q⟩ := hs
    exact ⟨v, H', J.os, J.bare, J.base, J.hok, rv, q⟩
  | next =>
    obtain ⟨σ', H', J, q⟩ := hs
    exact ⟨V.non, H', J.os, J.bare, J.base, J.hok, rfl, q⟩
  | brk =>
    obtain ⟨_, _, _, z⟩ := hs
    exact False.elim z
  | cont =>
    obtain ⟨_, _, _, z⟩ := hs
    exact False.elim z

/-- what the written part says of the class C's __iter__, at f: its text is «return iter(self.x)» -/
structure IterAt (K : PySem.W.Frag) (mg : Str → Option Value) (C f : Addr) (x : Str) : Prop where
  at_ : PySem.W.findIn K (.ref C) "__iter__" = some (some (.ref f))
  fn : PySem.W.isFn K (.ref f) = true
  cl : Cls K C
  noX : NoAttr K C x
  noI : mg "iter" = none
  txt : ∃ (qual : Str) (params : Arguments) (scope : Scope) (dV kV doc pm cdv ct oc : Value) (an od : Option Addr) (osl : Array (Option Value)) (N : List Str) (p0 p1 p2 p3 p4 : Pos),
    K.lookup f = some ⟨oc, od, .func (PySem.W.fnOf "__iter__" qual params [.Return (some (.Call (.Name "iter" p0) [.Attribute (.Name "self" p1) x p2] [] p3)) p4] scope dV kV doc pm an cdv ct), osl⟩ ∧ PySem.W.codeIn K cdv qual = true ∧
    FnScope N ["self"] scope ∧ N[0]? = some ("self" : Str) ∧ scope.names.lookup ("iter" : Str) = some .globalImplicit ∧ scope.names.lookup ("self" : Str) = some .local ∧
    (∀ us : List Value, us.length = 1 → bindArgs (PySem.W.fnOf "__iter__" qual params [.Return (some (.Call (.Name "iter" p0) [.Attribute (.Name "self" p1) x p2] [] p3)) p4] scope dV kV doc pm an cdv ct) ⟨us, []⟩ = pure ((["self"] : List Str).zip us)) ∧
    (∀ env : Env, starEach [.Attribute (.Name "self" p1) x p2] env = (false, eval (.Attribute (.Name "self" p1) x p2) env) :: starEach [] env) ∧ (∀ env : Env, (backTo p3 (starEach [] env)).any (·.1) = false) ∧
    (∀ env : Env, attributeBase (.Name "self" p1) x env (eval (.Name "self" p1) env) = eval (.Name "self" p1) env)

/-- o walked: the list at the address l that its attribute x holds -/
def iOwn (K : PySem.W.Frag) (C : Addr) (x : Str) (to : TE) : TI := fun σ H R => to σ H fun v H1 => ∃ a dx fs l, v = .ref a ∧ H1 a = some (.ins C dx fs) ∧ fs.lookup x = some (.ref l) ∧ (∃ xs, SqL K H1 l xs) ∧ R (Itl K l) H1
theorem pi_own {X : Cx} {C f : Addr} {x : Str} {o tg : Expr} {to : TE} (T : IterAt X.K X.mg C f x) (hr : Room 2 X.A) (ho : PE X o to) : PI X tg o (iOwn X.K C x to) := by
  refine ⟨fun pins s σ H R I h => ?_⟩
  refine thn (ho.run pins s σ H _ I h) fun v s1 ⟨y, H1, I1, r1, a, dx, fs, l, ey, ea, hl, ⟨xs, hq⟩, q⟩ => ?_
  subst ey
  cases r1
  obtain ⟨mA, Oa, _⟩ := ins_get I1.hok ea
  obtain ⟨od0, Ja, _⟩ := Oa.look
  obtain ⟨m, fr⟩ := I1.fr
  refine PySem.W.owit_iter fr I1.ok.mod.kin Ja T.at_ T.fn ?_
  obtain ⟨qual, params, scope, dV, kV, doc, pm, cdv, ct, oc, an, od, osl, N, p0, p1, p2, p3, p4, lk, hcd, S, hN, hI, hself, hbnd, hst, hpl, hab⟩ := T.txt
  let Q : VK := fun v H' => ∃ it, v = .ref it ∧ H1 it = none ∧ s1.heap.objs.size ≤ it ∧ H' = upd H1 it (ItO l it 0)
  refine wpAny_call (codeAny_mono (run_body (CX := CX0) (N := N) (ps := ["self"]) (us := [.ref a]) (vs := [.ref a]) (Q := Q) (E := E0) lk hcd S hr I1.env0 (.of_eq (hbnd [.ref a] rfl)) (.cons rfl .nil) rfl
    (pss_one (ps_ret (pe_callB ItX.call_iterN hI T.noI (by decide +kernel) (pa_cons (pe_fld (pe_var (i := 0) hN (.inl hself)) (hab _)) pa_nil) (by decide) (by decide) (hst _) (hpl _)))) ?_) fun r s' hq' => ?_)
  · exact ⟨.ref a, rfl, a, C, dx, fs, .ref l, rfl, ea, T.cl, T.noX, hl, l, xs, rfl, hq, fun it hn hz => ⟨it, rfl, hn, hz, rfl⟩⟩
  · cases r with
    | error er => exact hq'.elim
    | ok fl =>
      cases fl with
      | ret u =>
        obtain ⟨v', H', I', rv, it, rfl, hn, hz, rfl⟩ := I1.after hq'
        obtain rfl : u = Value.ref it := rv
        have hx := itO_get I' upd_same
        have hT : s'.TypeIs (.ref it) "list_iterator" := ⟨_, hx, rfl⟩
        have I2 := ItX.inv_drop I' (a := it) (by rw [upd_same]; rfl)
        rw [ItX.dropH_upd hn] at I2
        show wpAny _ _ (specialOf (.ref it) "__next__") _ _ _
        refine wpAny_specialOf (name := Str.ofString "__next__") hT slot_listiter_next.lookup ?_
        refine ⟨it, [it], _, _, H1, rfl, I2, turn_list l it, ⟨_, hx, rfl, rfl⟩, fun b hb => ?_, q⟩
        have e : b = it := by simpa using hb
        subst e
        exact I1.fpOk hz hn
      | next => exact False.elim hq'
      | brk => exact False.elim hq'
      | cont => exact False.elim hq'
end Own

/-! # Data in place of addresses: what a value stands for, told by one tree -/
namespace Y
open PySem L2

inductive D where
  | non | bl (b : Bool) | int (i : Int) | str (x : Str)
  | tup (ds : List D) | lst (ds : List D) | fz (ds : List D)
  | obj (C : Addr) (ns : List Str) (ds : List D)
  | xd (ns : List Str) (ds : List D)
  | dT (ks : List (List Key)) (ds : List D)
  | dK (ks : List Key) (ds : List D)
  | opq (v : V)
  | er (a C p : Addr) (ns : List Str) (ds : List D)
  | slf (p C : Addr) (ns : List Str) (ds : List D)

/-- H grows to H' -/
abbrev Ex (H H' : Hp) : Prop := ∀ a o, H a = some o → H' a = some o
theorem Ex.rd {H H' : Hp} {a : Addr} {u : HO} (e : Ex H H') (h : Rd H a u) : Rd H' a u := h.elim (fun z => .inl (e _ _ z)) fun ⟨o, z⟩ => .inr ⟨o, e _ _ z⟩
theorem Ex.l {K : PySem.W.Frag} {H H' : Hp} {a : Addr} {xs : List V} (e : Ex H H') (h : SqL K H a xs) : SqL K H' a xs := h.elim (fun z => .inl (Ex.rd e z)) .inr
theorem Ex.t {K : PySem.W.Frag} {H H' : Hp} {a : Addr} {xs : List V} (e : Ex H H') (h : SqT K H a xs) : SqT K H' a xs := h.elim (fun z => .inl (Ex.rd e z)) .inr
theorem Ex.tr {H H1 H2 : Hp} (a : Ex H H1) (b : Ex H1 H2) : Ex H H2 := fun c o h => b c o (a c o h)
theorem Ex.new {H : Hp} {p : Addr} {o : HO} (h : H p = none) : Ex H (upd H p o) := fun a u e => (upd_ne (ne_of_none e h)).trans e

section
variable (K : PySem.W.Frag)
mutual
/-- in the heap H the value v stands for d -/
def Rep (H : Hp) : D → V → Prop
  | .non, v => v = .non
  | .bl b, v => v = .bl b
  | .int i, v => v = .int i
  | .str x, v => v = .str x
  | .opq u, v => v = u
  | .er a _ p ns ds, v => ∃ fs, v = .ref a ∧ H p = some (.xd fs) ∧ fs.map (·.1) = ns ∧ Reps H ds (fs.map (·.2))
  | .slf a C ns ds, v => ∃ dx fs, v = .ref a ∧ H a = some (.ins C dx fs) ∧ fs.map (·.1) = ns ∧ Reps H ds (fs.map (·.2))
  | .tup ds, v => ∃ a vs, v = .ref a ∧ H a = some (.tup vs) ∧ Reps H ds vs
  | .lst ds, v => ∃ a vs, v = .ref a ∧ H a = some (.lst vs) ∧ Reps H ds vs
  | .fz ds, v => ∃ a vs, v = .ref a ∧ SqL K H a vs ∧ Reps H ds vs
  | .obj C ns ds, v => ∃ a dx fs, v = .ref a ∧ H a = some (.ins C dx fs) ∧ fs.map (·.1) = ns ∧ Reps H ds (fs.map (·.2))
  | .xd ns ds, v => ∃ a fs, v = .ref a ∧ H a = some (.xd fs) ∧ fs.map (·.1) = ns ∧ Reps H ds (fs.map (·.2))
  | .dT ks ds, v => ∃ a kvs, v = .ref a ∧ H a = some (.dT kvs) ∧ kvs.map (·.1) = ks ∧ Reps H ds (kvs.map (·.2))
  | .dK ks ds, v => ∃ a kvs, v = .ref a ∧ H a = some (.dK kvs) ∧ kvs.map (·.1) = ks ∧ Reps H ds (kvs.map (·.2))
def Reps (H : Hp) : List D → List V → Prop
  | [], vs => vs = []
  | d :: ds, vs => ∃ v us, vs = v :: us ∧ Rep H d v ∧ Reps H ds us
end
/-- the top in Ht, what is within in H -/
def RepB (Ht H : Hp) : D → V → Prop
  | .tup ds, v => ∃ a vs, v = .ref a ∧ Ht a = some (.tup vs) ∧ Reps K H ds vs
  | .lst ds, v => ∃ a vs, v = .ref a ∧ Ht a = some (.lst vs) ∧ Reps K H ds vs
  | .fz ds, v => ∃ a vs, v = .ref a ∧ SqL K Ht a vs ∧ Reps K H ds vs
  | .obj C ns ds, v => ∃ a dx fs, v = .ref a ∧ Ht a = some (.ins C dx fs) ∧ fs.map (·.1) = ns ∧ Reps K H ds (fs.map (·.2))
  | .xd ns ds, v => ∃ a fs, v = .ref a ∧ Ht a = some (.xd fs) ∧ fs.map (·.1) = ns ∧ Reps K H ds (fs.map (·.2))
  | .dT ks ds, v => ∃ a kvs, v = .ref a ∧ Ht a = some (.dT kvs) ∧ kvs.map (·.1) = ks ∧ Reps K H ds (kvs.map (·.2))
  | .dK ks ds, v => ∃ a kvs, v = .ref a ∧ Ht a = some (.dK kvs) ∧ kvs.map (·.1) = ks ∧ Reps K H ds (kvs.map (·.2))
  | .slf a C ns ds, v => ∃ dx fs, v = .ref a ∧ Ht a = some (.ins C dx fs) ∧ fs.map (·.1) = ns ∧ Reps K H ds (fs.map (·.2))
  | d, v => Rep K H d v
/-- an object that may be written, what is within in H -/
def RepH (H : Hp) : D → Addr → HO → Prop
  | .lst ds, _, .lst vs => Reps K H ds vs
  | .obj C ns ds, _, .ins C' _ fs => C = C' ∧ fs.map (·.1) = ns ∧ Reps K H ds (fs.map (·.2))
  | .slf q C ns ds, p, .ins C' _ fs => (C = C' ∧ q = p) ∧ fs.map (·.1) = ns ∧ Reps K H ds (fs.map (·.2))
  | .dT ks ds, _, .dT kvs => kvs.map (·.1) = ks ∧ Reps K H ds (kvs.map (·.2))
  | .dK ks ds, _, .dK kvs => kvs.map (·.1) = ks ∧ Reps K H ds (kvs.map (·.2))
  | _, _, _ => False
end
section
variable {K : PySem.W.Frag} {H H' Ht Ht' : Hp}
mutual
theorem Rep.mono (e : Ex H H') : ∀ {d : D} {v : V}, Rep K H d v → Rep K H' d v
  | .non, _, h => h
  | .bl _, _, h => h
  | .int _, _, h => h
  | .str _, _, h => h
  | .opq _, _, h => h
  | .tup ds, v, ⟨a, vs, h1, h2, h3⟩ => ⟨a, vs, h1, e _ _ h2, Reps.mono e h3⟩
  | .lst ds, v, ⟨a, vs, h1, h2, h3⟩ => ⟨a, vs, h1, e _ _ h2, Reps.mono e h3⟩
  | .fz ds, v, ⟨a, vs, h1, h2, h3⟩ => ⟨a, vs, h1, Ex.l e h2, Reps.mono e h3⟩
  | .obj C ns ds, v, ⟨a, dx, fs, h1, h2, h3, h4⟩ => ⟨a, dx, fs, h1, e _ _ h2, h3, Reps.mono e h4⟩
  | .xd ns ds, v, ⟨a, fs, h1, h2, h3, h4⟩ => ⟨a, fs, h1, e _ _ h2, h3, Reps.mono e h4⟩
  | .dT ks ds, v, ⟨a, kvs, h1, h2, h3, h4⟩ => ⟨a, kvs, h1, e _ _ h2, h3, Reps.mono e h4⟩
  | .dK ks ds, v, ⟨a, kvs, h1, h2, h3, h4⟩ => ⟨a, kvs, h1, e _ _ h2, h3, Reps.mono e h4⟩
  | .er a C p ns ds, v, ⟨fs, h1, h2, h3, h4⟩ => ⟨fs, h1, e _ _ h2, h3, Reps.mono e h4⟩
  | .slf a C ns ds, v, ⟨dx, fs, h1, h2, h3, h4⟩ => ⟨dx, fs, h1, e _ _ h2, h3, Reps.mono e h4⟩
theorem Reps.mono (e : Ex H H') : ∀ {ds : List D} {vs : List V}, Reps K H ds vs → Reps K H' ds vs
  | [], _, h => h
  | d :: ds, _, ⟨v, us, h1, h2, h3⟩ => ⟨v, us, h1, Rep.mono e h2, Reps.mono e h3⟩
end
theorem RepB.mono (et : Ex Ht Ht') (e : Ex H H') : ∀ {d : D} {v : V}, RepB K Ht H d v → RepB K Ht' H' d v
  | .non, _, h => h
  | .bl _, _, h => h
  | .int _, _, h => h
  | .str _, _, h => h
  | .opq _, _, h => h
  | .tup ds, v, ⟨a, vs, h1, h2, h3⟩ => ⟨a, vs, h1, et _ _ h2, Reps.mono e h3⟩
  | .lst ds, v, ⟨a, vs, h1, h2, h3⟩ => ⟨a, vs, h1, et _ _ h2, Reps.mono e h3⟩
  | .fz ds, v, ⟨a, vs, h1, h2, h3⟩ => ⟨a, vs, h1, Ex.l et h2, Reps.mono e h3⟩
  | .obj C ns ds, v, ⟨a, dx, fs, h1, h2, h3, h4⟩ => ⟨a, dx, fs, h1, et _ _ h2, h3, Reps.mono e h4⟩
  | .xd ns ds, v, ⟨a, fs, h1, h2, h3, h4⟩ => ⟨a, fs, h1, et _ _ h2, h3, Reps.mono e h4⟩
  | .dT ks ds, v, ⟨a, kvs, h1, h2, h3, h4⟩ => ⟨a, kvs, h1, et _ _ h2, h3, Reps.mono e h4⟩
  | .dK ks ds, v, ⟨a, kvs, h1, h2, h3, h4⟩ => ⟨a, kvs, h1, et _ _ h2, h3, Reps.mono e h4⟩
  | .er a C p ns ds, v, h => Rep.mono (d := .er a C p ns ds) e h
  | .slf a C ns ds, v, ⟨dx, fs, h1, h2, h3, h4⟩ => ⟨dx, fs, h1, et _ _ h2, h3, Reps.mono e h4⟩
theorem Rep.b (et : Ex H Ht) : ∀ {d : D} {v : V}, Rep K H d v → RepB K Ht H d v
  | .non, _, h => h
  | .bl _, _, h => h
  | .int _, _, h => h
  | .str _, _, h => h
  | .opq _, _, h => h
  | .tup ds, v, ⟨a, vs, h1, h2, h3⟩ => ⟨a, vs, h1, et _ _ h2, h3⟩
  | .lst ds, v, ⟨a, vs, h1, h2, h3⟩ => ⟨a, vs, h1, et _ _ h2, h3⟩
  | .fz ds, v, ⟨a, vs, h1, h2, h3⟩ => ⟨a, vs, h1, Ex.l et h2, h3⟩
  | .obj C ns ds, v, ⟨a, dx, fs, h1, h2, h3, h4⟩ => ⟨a, dx, fs, h1, et _ _ h2, h3, h4⟩
  | .xd ns ds, v, ⟨a, fs, h1, h2, h3, h4⟩ => ⟨a, fs, h1, et _ _ h2, h3, h4⟩
  | .dT ks ds, v, ⟨a, kvs, h1, h2, h3, h4⟩ => ⟨a, kvs, h1, et _ _ h2, h3, h4⟩
  | .dK ks ds, v, ⟨a, kvs, h1, h2, h3, h4⟩ => ⟨a, kvs, h1, et _ _ h2, h3, h4⟩
  | .er _ _ _ _ _, _, h => h
  | .slf a C ns ds, v, ⟨dx, fs, h1, h2, h3, h4⟩ => ⟨dx, fs, h1, et _ _ h2, h3, h4⟩
theorem RepH.mono (e : Ex H H') {d : D} {a : Addr} {o : HO} (h : RepH K H d a o) : RepH K H' d a o := by
  cases d <;> cases o <;> first
    | exact h.elim
    | exact Reps.mono e h
    | exact ⟨h.1, Reps.mono e h.2⟩
    | exact ⟨h.1, h.2.1, Reps.mono e h.2.2⟩
theorem RepH.b {a : Addr} {d : D} {o : HO} (h : RepH K H d a o) (ha : Ht a = some o) : RepB K Ht H d (.ref a) := by
  cases d <;> cases o <;> first
    | exact h.elim
    | exact ⟨a, _, rfl, ha, h⟩
    | (obtain ⟨rfl, h1, h2⟩ := h; exact ⟨a, _, _, rfl, ha, h1, h2⟩)
    | (obtain ⟨⟨rfl, rfl⟩, h1, h2⟩ := h; exact ⟨_, _, rfl, ha, h1, h2⟩)
theorem RepH.rep {a : Addr} {d : D} {o : HO} (h : RepH K H d a o) (ha : H a = some o) : Rep K H d (.ref a) := by
  cases d <;> cases o <;> first
    | exact h.elim
    | exact ⟨a, _, rfl, ha, h⟩
    | (obtain ⟨rfl, h1, h2⟩ := h; exact ⟨a, _, _, rfl, ha, h1, h2⟩)
    | (obtain ⟨⟨rfl, rfl⟩, h1, h2⟩ := h; exact ⟨_, _, rfl, ha, h1, h2⟩)
/-! lists of data -/
theorem Reps.len : ∀ {ds : List D} {vs : List V}, Reps K H ds vs → vs.length = ds.length
  | [], _, h => by rw [h] <;> rfl
  | _ :: _, _, ⟨_, _, h1, _, h3⟩ => by rw [h1, List.length_cons, List.length_cons, Reps.len h3]
theorem Reps.get : ∀ {ds : List D} {vs : List V} {i : Nat} {d : D}, Reps K H ds vs → ds[i]? = some d → ∃ v, vs[i]? = some v ∧ Rep K H d v
  | [], _, _, _, _, e => by simp at e
  | _ :: _, _, 0, _, ⟨v, _, h1, h2, _⟩, e => by
    have e' := Option.some.inj e
    subst e'
    exact ⟨v, by rw [h1] <;> rfl, h2⟩
  | _ :: _, _, i + 1, _, ⟨_, us, h1, _, h3⟩, e => by
    obtain ⟨v, q1, q2⟩ := Reps.get (i := i) h3 e
    exact ⟨v, by rw [h1]; exact q1, q2⟩
theorem Reps.got : ∀ {ds : List D} {vs : List V} {i : Nat} {v : V}, Reps K H ds vs → vs[i]? = some v → ∃ d, ds[i]? = some d ∧ Rep K H d v
  | [], _, _, _, h, e => by rw [h] at e; simp at e
  | d :: _, _, 0, _, ⟨v, _, h1, h2, _⟩, e => by
    rw [h1] at e
    have e' := Option.some.inj e
    subst e'
    exact ⟨d, rfl, h2⟩
  | _ :: ds, _, i + 1, _, ⟨_, us, h1, _, h3⟩, e => by
    rw [h1] at e
    exact Reps.got (i := i) h3 e
theorem Reps.app : ∀ {ds es : List D} {vs us : List V}, Reps K H ds vs → Reps K H es us → Reps K H (ds ++ es) (vs ++ us)
  | [], _, _, _, h, g => by rw [h]; exact g
  | _ :: _, _, _, _, ⟨v, _, h1, h2, h3⟩, g => ⟨v, _, by rw [h1] <;> rfl, h2, Reps.app h3 g⟩
theorem Reps.one {d : D} {v : V} (h : Rep K H d v) : Reps K H [d] [v] := ⟨v, [], rfl, h, rfl⟩
theorem Reps.nil : Reps K H [] [] := rfl
theorem Reps.cons {d : D} {v : V} {ds : List D} {vs : List V} (h : Rep K H d v) (g : Reps K H ds vs) : Reps K H (d :: ds) (v :: vs) := ⟨v, vs, rfl, h, g⟩
theorem Reps.set : ∀ {ds : List D} {vs : List V} {d : D} {v : V} (i : Nat), Reps K H ds vs → Rep K H d v → Reps K H (ds.set i d) (vs.set i v)
  | [], _, _, _, _, h, _ => by rw [h]; exact rfl
  | _ :: _, _, _, v, 0, ⟨_, us, h1, _, h3⟩, g => ⟨v, us, by rw [h1] <;> rfl, g, h3⟩
  | _ :: _, _, _, _, i + 1, ⟨v, us, h1, h2, h3⟩, g => ⟨v, us.set i _, by rw [h1] <;> rfl, h2, Reps.set i h3 g⟩
theorem Reps.take : ∀ {ds : List D} {vs : List V} (n : Nat), Reps K H ds vs → Reps K H (ds.take n) (vs.take n)
  | _, _, 0, _ => rfl
  | [], _, _ + 1, h => by rw [h]; exact rfl
  | _ :: _, _, n + 1, ⟨v, us, h1, h2, h3⟩ => ⟨v, us.take n, by rw [h1] <;> rfl, h2, Reps.take n h3⟩
theorem Reps.drop : ∀ {ds : List D} {vs : List V} (n : Nat), Reps K H ds vs → Reps K H (ds.drop n) (vs.drop n)
  | _, _, 0, h => h
  | [], _, _ + 1, h => by rw [h]; exact rfl
  | _ :: _, _, n + 1, ⟨_, us, h1, _, h3⟩ => by rw [h1]; exact Reps.drop n h3
theorem Reps.rev : ∀ {ds : List D} {vs : List V}, Reps K H ds vs → Reps K H ds.reverse vs.reverse
  | [], _, h => by rw [h]; exact rfl
  | _ :: _, _, ⟨v, us, h1, h2, h3⟩ => by
    rw [h1, List.reverse_cons, List.reverse_cons]
    exact Reps.app (Reps.rev h3) (Reps.one h2)
/-- scalars -/
theorem Reps.ints : ∀ {ns : List Int} {vs : List V}, Reps K H (ns.map .int) vs → vs = ns.map V.int
  | [], _, h => h
  | _ :: _, _, ⟨_, _, h1, h2, h3⟩ => by rw [h1, h2, Reps.ints h3] <;> rfl
theorem Reps.of_ints : ∀ {ns : List Int}, Reps K H (ns.map .int) (ns.map V.int)
  | [] => rfl
  | _ :: _ => ⟨_, _, rfl, rfl, Reps.of_ints⟩
end
end Y

namespace Y
open PySem L2

/-! ## slots: what is known of a name's value, or of a value on the stack of an expression -/
/-- no: nothing; va: frozen data; ow: an object of one's own that may be changed; br: read from outside (its top stands since the entry); bw: read now -/
inductive Sl where
  | no | va (d : D) | ow (d : D) | br (d : D) | bw (d : D)
/-- the heap without the objects that somebody may change -/
def cut (H : Hp) (O : List Addr) : Hp := fun a => if a ∈ O then none else H a
section
variable {H H' : Hp} {O O' : List Addr} {a p : Addr} {o : HO}
theorem cut_ex : Ex (cut H O) H := fun a o h => by
  unfold cut at h
  split at h
  · cases h
  · exact h
theorem cut_mono (e : Ex H H') : Ex (cut H O) (cut H' O) := fun a o h => by
  unfold cut at h ⊢
  split at h
  · cases h
  · rename_i n
    rw [if_neg n]
    exact e _ _ h
theorem cut_sub (s : ∀ a ∈ O, a ∈ O') : Ex (cut H O') (cut H O) := fun a o h => by
  unfold cut at h ⊢
  split at h
  · cases h
  · rename_i n
    rw [if_neg fun z => n (s a z)]
    exact h
theorem cut_upd (h : p ∈ O) : cut (upd H p o) O = cut H O := by
  funext a
  unfold cut
  split
  · rfl
  · rename_i n
    exact upd_ne fun z => n (by rw [z]; exact h)
theorem cut_out (h : p ∉ O) : cut H O p = H p := if_neg h
/-- a new object that one keeps for oneself -/
theorem cut_own (e : Ex H H') (hp : H p = none) : Ex (cut H O) (cut H' (p :: O)) := fun a o h => by
  unfold cut at h ⊢
  split at h
  · cases h
  · rename_i n
    have hne : a ≠ p := ne_of_none h hp
    rw [if_neg fun z => (List.mem_cons.mp z).elim hne n]
    exact e _ _ h
end

section
variable (K : PySem.W.Frag) (H0 : Hp)
def SlOk (O : List Addr) (H : Hp) : Sl → Option V → Prop
  | .no, _ => True
  | .va d, x => ∃ v, x = some v ∧ Rep K (cut H O) d v
  | .ow d, x => ∃ p o, x = some (.ref p) ∧ p ∈ O ∧ H0 p = none ∧ H p = some o ∧ RepH K (cut H O) d p o
  | .br d, x => ∃ v, x = some v ∧ RepB K H0 (cut H O) d v
  | .bw d, x => ∃ v, x = some v ∧ RepB K H (cut H O) d v
structure WfO (Oc O : List Addr) (G : List Sl) (S : List (Option V)) (H : Hp) : Prop where
  sub : ∀ a ∈ Oc, a ∈ O
  new : ∀ a ∈ O, a ∈ Oc ∨ H0 a = none
  old : ∀ a ∈ Oc, H0 a ≠ none
  live : ∀ a ∈ O, H a ≠ none
  ex : Ex H0 H
  len : S.length = G.length
  ok : ∀ (i : Nat) (s : Sl) (x : Option V), G[i]? = some s → S[i]? = some x → SlOk K H0 O H s x
  nd : ∀ (i j : Nat) (p : Addr) (d d' : D), G[i]? = some (.ow d) → S[i]? = some (some (.ref p)) → G[j]? = some (.ow d') → S[j]? = some (some (.ref p)) → i = j
def Wf (Oc : List Addr) (G : List Sl) (S : List (Option V)) (H : Hp) : Prop := ∃ O, WfO K H0 Oc O G S H
end
section
variable {K : PySem.W.Frag} {H0 H H' : Hp} {O Oc : List Addr} {G G' : List Sl} {S S' : List (Option V)} {s : Sl} {x : Option V} {d : D}
theorem SlOk.mono (e : Ex H H') : ∀ {s : Sl} {x : Option V}, SlOk K H0 O H s x → SlOk K H0 O H' s x
  | .no, _, _ => trivial
  | .va _, _, ⟨v, h1, h2⟩ => ⟨v, h1, Rep.mono (cut_mono e) h2⟩
  | .ow _, _, ⟨p, o, h1, h2, h3, h4, h5⟩ => ⟨p, o, h1, h2, h3, e _ _ h4, RepH.mono (cut_mono e) h5⟩
  | .br _, _, ⟨v, h1, h2⟩ => ⟨v, h1, RepB.mono (fun _ _ z => z) (cut_mono e) h2⟩
  | .bw _, _, ⟨v, h1, h2⟩ => ⟨v, h1, RepB.mono e (cut_mono e) h2⟩
/-- .. one new address is kept for oneself -/
theorem SlOk.own {p : Addr} (e : Ex H H') (hp : H p = none) : ∀ {s : Sl} {x : Option V}, SlOk K H0 O H s x → SlOk K H0 (p :: O) H' s x
  | .no, _, _ => trivial
  | .va _, _, ⟨v, h1, h2⟩ => ⟨v, h1, Rep.mono (cut_own e hp) h2⟩
  | .ow _, _, ⟨q, o, h1, h2, h3, h4, h5⟩ => ⟨q, o, h1, List.mem_cons_of_mem _ h2, h3, e _ _ h4, RepH.mono (cut_own e hp) h5⟩
  | .br _, _, ⟨v, h1, h2⟩ => ⟨v, h1, RepB.mono (fun _ _ z => z) (cut_own e hp) h2⟩
  | .bw _, _, ⟨v, h1, h2⟩ => ⟨v, h1, RepB.mono e (cut_own e hp) h2⟩
theorem WfO.grow (W : WfO K H0 Oc O G S H) (e : Ex H H') : WfO K H0 Oc O G S H' :=
  ⟨W.sub, W.new, W.old, fun a h z => (by
    cases q : H a with
    | none => exact W.live a h q
    | some o =>
      rw [e _ _ q] at z
      cases z), Ex.tr W.ex e, W.len, fun i s x h1 h2 => (W.ok i s x h1 h2).mono e, W.nd⟩
theorem Wf.grow (W : Wf K H0 Oc G S H) (e : Ex H H') : Wf K H0 Oc G S H' := let ⟨O, w⟩ := W; ⟨O, w.grow e⟩
theorem Wf.ex (W : Wf K H0 Oc G S H) : Ex H0 H := let ⟨_, w⟩ := W; w.ex
theorem WfO.pop {y : Option V} (W : WfO K H0 Oc O (s :: G) (y :: S) H) : WfO K H0 Oc O G S H :=
  ⟨W.sub, W.new, W.old, W.live, W.ex, by simpa using W.len, fun i s x h1 h2 => W.ok (i + 1) s x h1 h2, fun i j p d d' h1 h2 h3 h4 => Nat.succ.inj (W.nd (i + 1) (j + 1) p d d' h1 h2 h3 h4)⟩
theorem Wf.pop {y : Option V} (W : Wf K H0 Oc (s :: G) (y :: S) H) : Wf K H0 Oc G S H := let ⟨O, w⟩ := W; ⟨O, w.pop⟩
theorem WfO.head {y : Option V} (W : WfO K H0 Oc O (s :: G) (y :: S) H) : SlOk K H0 O H s y := W.ok 0 s y rfl rfl
/-- something that is not one's own comes on top -/
theorem WfO.push {y : Option V} (W : WfO K H0 Oc O G S H) (h : SlOk K H0 O H s y) (hs : ∀ d, s ≠ .ow d) : WfO K H0 Oc O (s :: G) (y :: S) H :=
  ⟨W.sub, W.new, W.old, W.live, W.ex, by simp [W.len], fun i s' x h1 h2 => by
    cases i with
    | zero =>
      have e1 := Option.some.inj h1
      have e2 := Option.some.inj h2
      subst e1
      subst e2
      exact h
    | succ i => exact W.ok i s' x h1 h2, fun i j p d d' h1 h2 h3 h4 => by
    cases i with
    | zero => exact absurd (Option.some.inj h1) (hs d)
    | succ i =>
      cases j with
      | zero => exact absurd (Option.some.inj h3) (hs d')
      | succ j => exact congrArg Nat.succ (W.nd i j p d d' h1 h2 h3 h4)⟩
/-- an own object's address is among O and stands -/
theorem WfO.owner {i : Nat} {p : Addr} (W : WfO K H0 Oc O G S H) (h1 : G[i]? = some (.ow d)) (h2 : S[i]? = some (some (.ref p))) : p ∈ O ∧ H0 p = none ∧ ∃ o, H p = some o ∧ RepH K (cut H O) d p o := by
  obtain ⟨q, o, e, q1, q2, q3, q4⟩ := W.ok i _ _ h1 h2
  cases e
  exact ⟨q1, q2, o, q3, q4⟩
/-- a new object of one's own comes on top -/
theorem WfO.pushOw {p : Addr} {o : HO} (W : WfO K H0 Oc O G S H) (e : Ex H H') (hp : H p = none) (ho : H' p = some o) (h : RepH K (cut H' (p :: O)) d p o) : WfO K H0 Oc (p :: O) (.ow d :: G) (some (.ref p) :: S) H' := by
  have h0 : H0 p = none := by
    cases q : H0 p with
    | none => rfl
    | some u => rw [W.ex _ _ q] at hp; cases hp
  refine ⟨fun a z => List.mem_cons_of_mem _ (W.sub a z), fun a z => ?_, ?_, fun a z => ?_, Ex.tr W.ex e, by simp [W.len], fun i s' x h1 h2 => ?_, ?_⟩
  · rcases List.mem_cons.mp z with rfl | z
    · exact .inr h0
    · exact W.new a z
  · exact W.old
  · rcases List.mem_cons.mp z with rfl | z
    · rw [ho]; exact fun z => nomatch z
    · exact (W.grow e).live a z
  · cases i with
    | zero =>
      have e1 := Option.some.inj h1
      have e2 := Option.some.inj h2
      subst e1
      subst e2
      exact ⟨p, o, rfl, List.mem_cons_self, h0, ho, h⟩
    | succ i => exact (W.ok i s' x h1 h2).own e hp
  · intro i j q d1 d2 h1 h2 h3 h4
    have old : ∀ {i : Nat} {d : D}, G[i]? = some (.ow d) → S[i]? = some (some (.ref p)) → False := fun {i d} a b => by
      obtain ⟨_, _, o, z, _⟩ := W.owner a b
      rw [hp] at z
      cases z
    cases i with
    | zero =>
      have e := V.ref.inj (Option.some.inj (Option.some.inj h2))
      subst e
      cases j with
      | zero => rfl
      | succ j => exact (old h3 h4).elim
    | succ i =>
      cases j with
      | zero =>
        have e := V.ref.inj (Option.some.inj (Option.some.inj h4))
        subst e
        exact (old h1 h2).elim
      | succ j => exact congrArg Nat.succ (W.nd i j q d1 d2 h1 h2 h3 h4)
/-- an own object is given up: nobody changes it any more -/
theorem SlOk.less {p : Addr} (hn : ∀ d, s = .ow d → x ≠ some (.ref p)) (h : SlOk K H0 O H s x) : SlOk K H0 (O.filter (· ≠ p)) H s x := by
  have sub : ∀ a ∈ O.filter (· ≠ p), a ∈ O := fun a z => (List.mem_filter.mp z).1
  cases s with
  | no => trivial
  | va d => obtain ⟨v, h1, h2⟩ := h; exact ⟨v, h1, Rep.mono (cut_sub sub) h2⟩
  | br d => obtain ⟨v, h1, h2⟩ := h; exact ⟨v, h1, RepB.mono (fun _ _ z => z) (cut_sub sub) h2⟩
  | bw d => obtain ⟨v, h1, h2⟩ := h; exact ⟨v, h1, RepB.mono (fun _ _ z => z) (cut_sub sub) h2⟩
  | ow d =>
    obtain ⟨q, o, h1, h2, h3, h4, h5⟩ := h
    refine ⟨q, o, h1, List.mem_filter.mpr ⟨h2, ?_⟩, h3, h4, RepH.mono (cut_sub sub) h5⟩
    have := hn d rfl
    rw [h1] at this
    simpa using fun z : q = p => this (by rw [z])
theorem WfO.freeze {y : Option V} (W : WfO K H0 Oc O (.ow d :: G) (y :: S) H) : ∃ O', WfO K H0 Oc O' (.va d :: G) (y :: S) H := by
  obtain ⟨p, o, rfl, h2, h3, h4, h5⟩ := W.head
  have sub : ∀ a ∈ O.filter (· ≠ p), a ∈ O := fun a z => (List.mem_filter.mp z).1
  have npc : p ∉ Oc := fun z => W.old p z h3
  refine ⟨O.filter (· ≠ p), ⟨fun a z => List.mem_filter.mpr ⟨W.sub a z, by simpa using fun q : a = p => npc (q ▸ z)⟩, fun a z => W.new a (sub a z), W.old, fun a z => W.live a (sub a z), W.ex, by simpa using W.len, fun i s' x h1 h2' => ?_, ?_⟩⟩
  · cases i with
    | zero =>
      have e1 := Option.some.inj h1
      have e2 := Option.some.inj h2'
      subst e1
      subst e2
      refine ⟨.ref p, rfl, RepH.rep (RepH.mono (cut_sub sub) h5) ?_⟩
      rw [cut_out (by simp)]
      exact h4
    | succ i =>
      refine SlOk.less (fun d' hs hx => ?_) (W.ok (i + 1) s' x h1 h2')
      subst hs
      exact absurd (W.nd 0 (i + 1) p d d' rfl rfl h1 (hx ▸ h2')) (by omega)
  · intro i j q d1 d2 h1 h2' h3' h4'
    cases i with
    | zero => exact absurd (Option.some.inj h1) (fun z => nomatch z)
    | succ i =>
      cases j with
      | zero => exact absurd (Option.some.inj h3') (fun z => nomatch z)
      | succ j => exact W.nd (i + 1) (j + 1) q d1 d2 h1 h2' h3' h4'
end
end Y

namespace Y
open PySem L2

/-! ## weakest readings of the text itself -/
def wpE (X : Cx) (e : Expr) : TE := fun σ H Q => ∀ (pins : List (Addr × Obj)) (s : Shared), Inv X pins σ H s → wpAny (model X.prog X.w) X.A (eval e X.env) (EP X pins σ Q) X.xe s
def wpT (X : Cx) (e : Expr) : TT := fun σ H Q => ∀ (pins : List (Addr × Obj)) (s : Shared), Inv X pins σ H s → wpAny (model X.prog X.w) X.A (isTrue e X.env (eval e X.env)) (TP X pins σ Q) X.xe s
def wpW (X : Cx) (e : Expr) : TT := fun σ H Q => ∀ (whole : Sem Value) (pins : List (Addr × Obj)) (s : Shared), Inv X pins σ H s → wpAny (model X.prog X.w) X.A (isTrue e X.env whole) (TP X pins σ Q) X.xe s
def wpA (X : Cx) (es : List Expr) : TA := fun σ H Q => ∀ (pos : Pos) (pins : List (Addr × Obj)) (s : Shared), Inv X pins σ H s → wpAny (model X.prog X.w) X.A (spliced (backTo pos (starEach es X.env))) (AP X pins σ Q) X.xe s
def wpS (X : Cx) (st : Stmt) : TS := fun D σ H => ∀ (pins : List (Addr × Obj)) (s : Shared), Inv X pins σ H s → wpAny (model X.prog X.w) X.A (exec st X.env) (SP X pins D) X.xe s
def wpSs (X : Cx) (st : List Stmt) : TS := fun D σ H => ∀ (pins : List (Addr × Obj)) (s : Shared), Inv X pins σ H s → wpAny (model X.prog X.w) X.A (execs st X.env) (SP X pins D) X.xe s
section
variable {X : Cx} {e : Expr} {es : List Expr} {st : Stmt} {sts : List Stmt} {σ : L2.St} {H : Hp}
theorem pe_wp : PE X e (wpE X e) := ⟨fun pins s σ H Q I h => h pins s I⟩
theorem pt_wp : PT X e (wpT X e) := ⟨fun pins s σ H Q I h => h pins s I⟩
theorem pw_wp : PW X e (wpW X e) := ⟨fun w pins s σ H Q I h => h w pins s I⟩
theorem pa_wp : PA X es (wpA X es) := ⟨fun pos pins s σ H Q I h => h pos pins s I⟩
theorem ps_wp : PS X st (wpS X st) := ⟨fun pins s σ H D I h => h pins s I⟩
theorem pss_wp : PSs X sts (wpSs X sts) := ⟨fun pins s σ H D I h => h pins s I⟩
theorem wpE.of {t : TE} {Q : VK} (h : PE X e t) (q : t σ H Q) : wpE X e σ H Q := fun pins s I => h.run pins s σ H Q I q
theorem wpT.of {t : TT} {Q : Bool → Hp → Prop} (h : PT X e t) (q : t σ H Q) : wpT X e σ H Q := fun pins s I => h.run pins s σ H Q I q
theorem wpW.of {t : TT} {Q : Bool → Hp → Prop} (h : PW X e t) (q : t σ H Q) : wpW X e σ H Q := fun w pins s I => h.run w pins s σ H Q I q
theorem wpA.of {t : TA} {Q : List V → Hp → Prop} (h : PA X es t) (q : t σ H Q) : wpA X es σ H Q := fun pos pins s I => h.run pos pins s σ H Q I q
theorem wpS.of {t : TS} {D : Ends} (h : PS X st t) (q : t D σ H) : wpS X st D σ H := fun pins s I => h.run pins s σ H D I q
theorem wpSs.of {t : TS} {D : Ends} (h : PSs X sts t) (q : t D σ H) : wpSs X sts D σ H := fun pins s I => h.run pins s σ H D I q
theorem wpE.mono {Q Q' : VK} (h : wpE X e σ H Q) (q : ∀ v H', Q v H' → Q' v H') : wpE X e σ H Q' := fun pins s I => thn (h pins s I) fun u s' ⟨v, H', I', r, z⟩ => ⟨v, H', I', r, q v H' z⟩
end

/-! ## what an expression gives, in terms of data -/
section
variable (X : Cx) (H0 : Hp) (Oc : List Addr) (Γ : List Sl)
def Ev (e : Expr) (s : Sl) : Prop := ∀ (Δ : List Sl) (τ : List (Option V)) (σ : L2.St) (H : Hp) (Q : VK), τ.length = Δ.length → Wf X.K H0 Oc (Δ ++ Γ) (τ ++ σ) H →
  (∀ v H', Wf X.K H0 Oc (s :: (Δ ++ Γ)) (some v :: (τ ++ σ)) H' → Q v H') → wpE X e σ H Q
/-- as a test -/
def Et (e : Expr) (b : Bool) : Prop := ∀ (Δ : List Sl) (τ : List (Option V)) (σ : L2.St) (H : Hp) (Q : Bool → Hp → Prop), τ.length = Δ.length → Wf X.K H0 Oc (Δ ++ Γ) (τ ++ σ) H →
  (∀ H', Wf X.K H0 Oc (Δ ++ Γ) (τ ++ σ) H' → Q b H') → wpT X e σ H Q
def Ew (e : Expr) (b : Bool) : Prop := ∀ (Δ : List Sl) (τ : List (Option V)) (σ : L2.St) (H : Hp) (Q : Bool → Hp → Prop), τ.length = Δ.length → Wf X.K H0 Oc (Δ ++ Γ) (τ ++ σ) H →
  (∀ H', Wf X.K H0 Oc (Δ ++ Γ) (τ ++ σ) H' → Q b H') → wpW X e σ H Q
/-- arguments: their slots, under one common set of changeable objects -/
def ArgsOk (K : PySem.W.Frag) (H0 : Hp) (O : List Addr) (H : Hp) : List Sl → List V → Prop
  | [], vs => vs = []
  | s :: ss, vs => ∃ v us, vs = v :: us ∧ SlOk K H0 O H s (some v) ∧ ArgsOk K H0 O H ss us
def Ea (es : List Expr) (ss : List Sl) : Prop := ∀ (Δ : List Sl) (τ : List (Option V)) (σ : L2.St) (H : Hp) (Q : List V → Hp → Prop), τ.length = Δ.length → Wf X.K H0 Oc (Δ ++ Γ) (τ ++ σ) H →
  (∀ vs O H', WfO X.K H0 Oc O (Δ ++ Γ) (τ ++ σ) H' → ArgsOk X.K H0 O H' ss vs → Q vs H') → wpA X es σ H Q
end
/-- what a slot tells to a reader -/
def Sl.dat : Sl → Option D
  | .no => none
  | .va d => some d
  | .ow d => some d
  | .br d => some d
  | .bw d => some d
section
variable {K : PySem.W.Frag} {H0 H H' : Hp} {O Oc : List Addr} {G : List Sl} {S : List (Option V)} {s : Sl} {d : D} {v : V}
theorem SlOk.b (e : Ex H0 H) (h : SlOk K H0 O H s (some v)) (hd : s.dat = some d) : RepB K H (cut H O) d v := by
  cases s with
  | no => cases hd
  | va d' =>
    cases hd
    obtain ⟨u, h1, h2⟩ := h
    cases h1
    exact Rep.b cut_ex h2
  | ow d' =>
    cases hd
    obtain ⟨p, o, h1, h2, h3, h4, h5⟩ := h
    cases h1
    exact RepH.b h5 h4
  | br d' =>
    cases hd
    obtain ⟨u, h1, h2⟩ := h
    cases h1
    exact RepB.mono e (fun _ _ z => z) h2
  | bw d' =>
    cases hd
    obtain ⟨u, h1, h2⟩ := h
    cases h1
    exact h2
theorem WfO.tobw (W : WfO K H0 Oc O (s :: G) (some v :: S) H) (hd : s.dat = some d) : WfO K H0 Oc O (.bw d :: G) (some v :: S) H :=
  W.pop.push ⟨v, rfl, W.head.b W.ex hd⟩ fun _ z => nomatch z
/-- data that need no heap -/
def flatD : D → Bool
  | .non | .bl _ | .int _ | .str _ | .opq _ => true
  | _ => false
theorem Rep.flat (h : Rep K H d v) (hf : flatD d = true) : Rep K H' d v := by cases d <;> first | exact h | exact absurd hf Bool.false_ne_true
theorem WfO.flat (W : WfO K H0 Oc O G S H) (hf : flatD d = true) (h : Rep K H' d v) : WfO K H0 Oc O (.va d :: G) (some v :: S) H :=
  W.push ⟨v, rfl, h.flat hf⟩ fun _ z => nomatch z
theorem RepB.flat (h : RepB K H H' d v) (hf : flatD d = true) : Rep K H' d v := by cases d <;> first | exact h | exact absurd hf Bool.false_ne_true
/-- a new tuple, frozen -/
theorem WfO.newTup {p : Addr} {ds : List D} {vs : List V} (W : WfO K H0 Oc O G S H) (hp : H p = none) (h : Reps K (cut H O) ds vs) : WfO K H0 Oc O (.va (.tup ds) :: G) (some (.ref p) :: S) (upd H p (.tup vs)) := by
  have np : p ∉ O := fun z => W.live p z hp
  refine (W.grow (Ex.new hp)).push ⟨.ref p, rfl, p, vs, rfl, ?_, Reps.mono (cut_mono (Ex.new hp)) h⟩ fun _ z => nomatch z
  rw [cut_out np]
  exact upd_same
theorem WfO.newLst {p : Addr} {ds : List D} {vs : List V} (W : WfO K H0 Oc O G S H) (hp : H p = none) (h : Reps K (cut H O) ds vs) : WfO K H0 Oc (p :: O) (.ow (.lst ds) :: G) (some (.ref p) :: S) (upd H p (.lst vs)) :=
  W.pushOw (Ex.new hp) hp upd_same (Reps.mono (cut_own (Ex.new hp) hp) h)
end
section
variable {X : Cx} {H0 : Hp} {Oc : List Addr} {Γ : List Sl} {e a b : Expr} {s : Sl} {d : D} {i j : Int} {pos : Pos}
/-- whoever reads needs no more -/
theorem Ev.r (h : Ev X H0 Oc Γ e s) (hd : s.dat = some d := by rfl) : Ev X H0 Oc Γ e (.bw d) := fun Δ τ σ H Q hl W q => h Δ τ σ H Q hl W fun v H' ⟨O, W'⟩ => q v H' ⟨O, W'.tobw hd⟩
theorem Ev.fz (h : Ev X H0 Oc Γ e (.ow d)) : Ev X H0 Oc Γ e (.va d) := fun Δ τ σ H Q hl W q => h Δ τ σ H Q hl W fun v H' ⟨O, W'⟩ => q v H' W'.freeze
theorem Ev.as {d' : D} (h : Ev X H0 Oc Γ e (.va d)) (hd : d = d') : Ev X H0 Oc Γ e (.va d') := hd ▸ h
theorem Ev.aso {d' : D} (h : Ev X H0 Oc Γ e (.ow d)) (hd : d = d') : Ev X H0 Oc Γ e (.ow d') := hd ▸ h
theorem Ev.fl (h : Ev X H0 Oc Γ e (.bw d)) (hf : flatD d = true := by rfl) : Ev X H0 Oc Γ e (.va d) := fun Δ τ σ H Q hl W q => h Δ τ σ H Q hl W fun v H' ⟨O, W'⟩ => by
  obtain ⟨u, h1, h2⟩ := W'.head
  cases h1
  exact q v H' ⟨O, W'.pop.flat hf (h2.flat hf)⟩
theorem Et.as {c c' : Bool} (h : Et X H0 Oc Γ e c) (hd : c = c') : Et X H0 Oc Γ e c' := hd ▸ h
/-! ### constants, names -/
theorem ev_flat {t : TE} {v : V} (h : PE X e t) (ht : ∀ σ H Q, Q v H → t σ H Q) (hf : flatD d = true) (hr : ∀ H, Rep X.K H d v) : Ev X H0 Oc Γ e (.va d) := fun Δ τ σ H Q hl W q =>
  wpE.of h (ht σ H Q (q v H (let ⟨O, W'⟩ := W; ⟨O, W'.flat hf (hr H)⟩)))
theorem ev_int {i : Int} {k pos} : Ev X H0 Oc Γ (.Constant (.int i) k pos) (.va (.int i)) := ev_flat pe_int (fun _ _ _ q => q) rfl fun _ => rfl
theorem ev_bl {c : Bool} {k pos} : Ev X H0 Oc Γ (.Constant (.bool c) k pos) (.va (.bl c)) := ev_flat pe_bl (fun _ _ _ q => q) rfl fun _ => rfl
theorem ev_non {k pos} : Ev X H0 Oc Γ (.Constant .none k pos) (.va .non) := ev_flat pe_non (fun _ _ _ q => q) rfl fun _ => rfl
theorem ev_str {x : Str} {k pos} : Ev X H0 Oc Γ (.Constant (.str x) k pos) (.va (.str x)) := ev_flat pe_str (fun _ _ _ q => q) rfl fun _ => rfl
theorem len_app {Δ : List Sl} {τ : List (Option V)} (hl : τ.length = Δ.length) {n : Nat} {σ : L2.St} {s : Sl} (h : Γ[n]? = some s) : (Δ ++ Γ)[Δ.length + n]? = some s ∧ (τ ++ σ)[Δ.length + n]? = σ[n]? := by
  refine ⟨by rw [List.getElem?_append_right (by omega)]; simpa using h, ?_⟩
  rw [List.getElem?_append_right (by omega)]
  congr 1
  omega
theorem slot_of {Δ : List Sl} {τ : List (Option V)} {σ : L2.St} {H : Hp} {O : List Addr} {n : Nat} (hl : τ.length = Δ.length) (W : WfO X.K H0 Oc O (Δ ++ Γ) (τ ++ σ) H) (h : Γ[n]? = some s) : ∃ x, σ[n]? = some x ∧ SlOk X.K H0 O H s x := by
  obtain ⟨h1, h2⟩ := len_app (σ := σ) hl h
  have hn : Δ.length + n < (τ ++ σ).length := by
    rw [W.len]
    exact (List.getElem?_eq_some_iff.mp h1).1
  obtain ⟨x, hx⟩ : ∃ x, (τ ++ σ)[Δ.length + n]? = some x := ⟨_, List.getElem?_eq_getElem hn⟩
  exact ⟨x, h2 ▸ hx, W.ok _ _ _ h1 hx⟩
/-- how a name's slot is read -/
def Sl.rd : Sl → Sl
  | .ow d => .bw d
  | s => s
theorem ev_var (n : Nat) {x : Str} (h : Γ[n]? = some s) (hs : s ≠ .no) (hN : X.N[n]? = some x) (hv : Vis X.env.scope x) (hd : (x == ("__debug__" : Str)) = false) (hcd : (x == ("__classdict__" : Str)) = false) : Ev X H0 Oc Γ (.Name x pos) s.rd := fun Δ τ σ H Q hl W q => by
  obtain ⟨O, W⟩ := W
  obtain ⟨y, hy, ok⟩ := slot_of hl W h
  cases s with
  | no => exact absurd rfl hs
  | va d =>
    obtain ⟨v, rfl, hv'⟩ := ok
    exact wpE.of (pe_var hN hv hd hcd) ⟨v, hy, q v H ⟨O, W.push ⟨v, rfl, hv'⟩ fun _ z => nomatch z⟩⟩
  | br d =>
    obtain ⟨v, rfl, hv'⟩ := ok
    exact wpE.of (pe_var hN hv hd hcd) ⟨v, hy, q v H ⟨O, W.push ⟨v, rfl, hv'⟩ fun _ z => nomatch z⟩⟩
  | bw d =>
    obtain ⟨v, rfl, hv'⟩ := ok
    exact wpE.of (pe_var hN hv hd hcd) ⟨v, hy, q v H ⟨O, W.push ⟨v, rfl, hv'⟩ fun _ z => nomatch z⟩⟩
  | ow d =>
    obtain ⟨p, o, rfl, h2, h3, h4, h5⟩ := ok
    exact wpE.of (pe_var hN hv hd hcd) ⟨.ref p, hy, q (.ref p) H ⟨O, W.push ⟨.ref p, rfl, RepH.b h5 h4⟩ fun _ z => nomatch z⟩⟩
/-! ### two operands, one operand -/
theorem ev_op2 {r : R2} {s1 s2 : Sl} (hp : ∀ {ta tb : TE}, PE X a ta → PE X b tb → PE X e (tOp r ta tb)) (ha : Ev X H0 Oc Γ a s1) (hb : Ev X H0 Oc Γ b s2)
    (hr : ∀ (G : List Sl) (S : List (Option V)) (H : Hp) (v w : V) (Q : VK), Wf X.K H0 Oc (s2 :: s1 :: G) (some w :: some v :: S) H → (∀ u H', Wf X.K H0 Oc (s :: G) (some u :: S) H' → Q u H') → r v w H Q) : Ev X H0 Oc Γ e s := fun Δ τ σ H Q hl W q => by
  refine wpE.of (hp pe_wp pe_wp) ?_
  refine ha Δ τ σ H _ hl W fun v H1 W1 => ?_
  refine hb (s1 :: Δ) (some v :: τ) σ H1 _ (by simp [hl]) W1 fun w H2 W2 => ?_
  exact hr _ _ H2 v w Q W2 q
theorem bw2 {K : PySem.W.Frag} {O : List Addr} {d1 d2 : D} {G : List Sl} {S : List (Option V)} {H : Hp} {v w : V} (W : WfO K H0 Oc O (.bw d2 :: .bw d1 :: G) (some w :: some v :: S) H) : RepB K H (cut H O) d1 v ∧ RepB K H (cut H O) d2 w ∧ WfO K H0 Oc O G S H := by
  obtain ⟨u, h1, h2⟩ := W.head
  obtain ⟨u', h1', h2'⟩ := W.pop.head
  cases h1
  cases h1'
  exact ⟨h2', h2, W.pop.pop⟩
theorem va2 {K : PySem.W.Frag} {O : List Addr} {d1 d2 : D} {G : List Sl} {S : List (Option V)} {H : Hp} {v w : V} (W : WfO K H0 Oc O (.va d2 :: .va d1 :: G) (some w :: some v :: S) H) : Rep K (cut H O) d1 v ∧ Rep K (cut H O) d2 w ∧ WfO K H0 Oc O G S H := by
  obtain ⟨u, h1, h2⟩ := W.head
  obtain ⟨u', h1', h2'⟩ := W.pop.head
  cases h1
  cases h1'
  exact ⟨h2', h2, W.pop.pop⟩
end
end Y

namespace Y
open PySem L2
section
variable {X : Cx} {H0 : Hp} {Oc : List Addr} {Γ : List Sl} {e a b c : Expr} {es : List Expr} {s s1 s2 : Sl} {d d1 d2 : D} {i j : Int} {pos p2 : Pos}
/-! ### whole numbers -/
theorem ev_ii0 {f : Operator} {g : Int → Int → V} {g' : Int → Int → D} (ho : OpR X (binaryOp f) (rI0 g)) (ha : Ev X H0 Oc Γ a (.va (.int i))) (hb : Ev X H0 Oc Γ b (.va (.int j))) (hf : flatD (g' i j) = true) (hr : ∀ H, Rep X.K H (g' i j) (g i j)) :
    Ev X H0 Oc Γ (.BinOp a f b pos) (.va (g' i j)) := ev_op2 (fun ha hb => pe_op ho ha hb) ha hb fun G S H v w Q ⟨O, W⟩ q => by
  obtain ⟨h1, h2, W'⟩ := va2 W
  exact ⟨i, j, h1, h2, q _ H ⟨O, W'.flat hf (hr H)⟩⟩
theorem ev_ii {f : Operator} {C : Int → Int → Prop} {g : Int → Int → V} {g' : Int → Int → D} (ho : OpR X (binaryOp f) (rI C g)) (ha : Ev X H0 Oc Γ a (.va (.int i))) (hb : Ev X H0 Oc Γ b (.va (.int j))) (hc : C i j) (hf : flatD (g' i j) = true) (hr : ∀ H, Rep X.K H (g' i j) (g i j)) :
    Ev X H0 Oc Γ (.BinOp a f b pos) (.va (g' i j)) := ev_op2 (fun ha hb => pe_op ho ha hb) ha hb fun G S H v w Q ⟨O, W⟩ q => by
  obtain ⟨h1, h2, W'⟩ := va2 W
  exact ⟨i, j, h1, h2, hc, q _ H ⟨O, W'.flat hf (hr H)⟩⟩
theorem ev_add (ha : Ev X H0 Oc Γ a (.va (.int i))) (hb : Ev X H0 Oc Γ b (.va (.int j))) : Ev X H0 Oc Γ (.BinOp a .Add b pos) (.va (.int (i + j))) := ev_ii0 (g' := fun i j => .int (i + j)) op_add ha hb rfl fun _ => rfl
theorem ev_sub (ha : Ev X H0 Oc Γ a (.va (.int i))) (hb : Ev X H0 Oc Γ b (.va (.int j))) : Ev X H0 Oc Γ (.BinOp a .Sub b pos) (.va (.int (i - j))) := ev_ii0 (g' := fun i j => .int (i - j)) op_sub ha hb rfl fun _ => rfl
theorem ev_mul (ha : Ev X H0 Oc Γ a (.va (.int i))) (hb : Ev X H0 Oc Γ b (.va (.int j))) (hc : CMul i j) : Ev X H0 Oc Γ (.BinOp a .Mult b pos) (.va (.int (i * j))) := ev_ii (g' := fun i j => .int (i * j)) op_mul ha hb hc rfl fun _ => rfl
theorem ev_fdiv (ha : Ev X H0 Oc Γ a (.va (.int i))) (hb : Ev X H0 Oc Γ b (.va (.int j))) (hc : CDiv i j) : Ev X H0 Oc Γ (.BinOp a .FloorDiv b pos) (.va (.int (i / j))) := ev_ii (g' := fun i j => .int (i / j)) op_fdiv ha hb hc rfl fun _ => rfl
theorem ev_mod (ha : Ev X H0 Oc Γ a (.va (.int i))) (hb : Ev X H0 Oc Γ b (.va (.int j))) (hc : 0 < j) : Ev X H0 Oc Γ (.BinOp a .Mod b pos) (.va (.int (i % j))) := ev_ii (g' := fun i j => .int (i % j)) op_mod ha hb hc rfl fun _ => rfl
theorem ev_pow (ha : Ev X H0 Oc Γ a (.va (.int i))) (hb : Ev X H0 Oc Γ b (.va (.int j))) (hc : CPow i j) : Ev X H0 Oc Γ (.BinOp a .Pow b pos) (.va (.int (i ^ j.toNat))) := ev_ii (g' := fun i j => .int (i ^ j.toNat)) op_pow ha hb hc rfl fun _ => rfl
theorem ev_op1 {r : V → Hp → VK → Prop} (hp : ∀ {ta : TE}, PE X a ta → PE X e (tUn r ta)) (ha : Ev X H0 Oc Γ a s1)
    (hr : ∀ (G : List Sl) (S : List (Option V)) (H : Hp) (v : V) (Q : VK), Wf X.K H0 Oc (s1 :: G) (some v :: S) H → (∀ u H', Wf X.K H0 Oc (s :: G) (some u :: S) H' → Q u H') → r v H Q) : Ev X H0 Oc Γ e s := fun Δ τ σ H Q hl W q =>
  wpE.of (hp pe_wp) (ha Δ τ σ H _ hl W fun v H1 W1 => hr _ _ H1 v Q W1 q)
theorem ev_neg (ha : Ev X H0 Oc Γ a (.va (.int i))) : Ev X H0 Oc Γ (.UnaryOp .USub a pos) (.va (.int (-i))) := ev_op1 (fun h => pe_un un_neg h) ha fun G S H v Q ⟨O, W⟩ q => by
  obtain ⟨u, h1, h2⟩ := W.head
  cases h1
  exact ⟨i, h2, q _ H ⟨O, W.pop.flat rfl (show Rep X.K H (.int (-i)) (.int (-i)) from rfl)⟩⟩
/-! ### comparisons -/
/-- a comparison, by the slots of its two sides -/
def C2 (X : Cx) (H0 : Hp) (Oc : List Addr) (f : CmpOp) (s1 s2 : Sl) (k : Bool) : Prop := ∃ r : R2, OpR X (compareOp f) r ∧
  ∀ (G : List Sl) (S : List (Option V)) (H : Hp) (v w : V) (Q : VK), Wf X.K H0 Oc (s2 :: s1 :: G) (some w :: some v :: S) H → (∀ H', Wf X.K H0 Oc G S H' → Q (.bl k) H') → r v w H Q
theorem ev_c {f : CmpOp} {k : Bool} (hc : C2 X H0 Oc f s1 s2 k) (ha : Ev X H0 Oc Γ a s1) (hb : Ev X H0 Oc Γ b s2) (hm : behindInMarks f b = false := by first | exact nomark _ | rfl) : Ev X H0 Oc Γ (.Compare a [f] [b] pos) (.va (.bl k)) := by
  obtain ⟨r, ho, hr⟩ := hc
  exact ev_op2 (fun ha hb => pe_cmpR ho ha hb hm) ha hb fun G S H v w Q W q => hr G S H v w Q W fun H' ⟨O, W'⟩ => q _ H' ⟨O, W'.flat rfl (show Rep X.K H' (.bl k) (.bl k) from rfl)⟩
theorem et_c {f : CmpOp} {k : Bool} (hc : C2 X H0 Oc f s1 s2 k) (ha : Ev X H0 Oc Γ a s1) (hb : Ev X H0 Oc Γ b s2) (hm : behindInMarks f b = false := by first | exact nomark _ | rfl) : Et X H0 Oc Γ (.Compare a [f] [b] pos) k := by
  obtain ⟨r, ho, hr⟩ := hc
  intro Δ τ σ H Q hl W q
  refine wpT.of (pt_cmpR ho pe_wp pe_wp hm) ?_
  refine ha Δ τ σ H _ hl W fun v H1 W1 => ?_
  refine hb (s1 :: Δ) (some v :: τ) σ H1 _ (by simp [hl]) W1 fun w H2 W2 => ?_
  exact hr _ _ H2 v w _ W2 fun H' W' => ⟨k, rfl, q H' W'⟩
theorem cm_ii {f : CmpOp} {p : Int → Int → Bool} (ho : OpR X (compareOp f) (rI0 fun i j => .bl (p i j))) : C2 X H0 Oc f (.va (.int i)) (.va (.int j)) (p i j) := ⟨_, ho, fun G S H v w Q ⟨O, W⟩ q => by
  obtain ⟨h1, h2, W'⟩ := va2 W
  exact ⟨i, j, h1, h2, q H ⟨O, W'⟩⟩⟩
theorem cm_lt : C2 X H0 Oc .Lt (.va (.int i)) (.va (.int j)) (decide (i < j)) := cm_ii (p := fun i j => decide (i < j)) op_lt
theorem cm_le : C2 X H0 Oc .LtE (.va (.int i)) (.va (.int j)) (decide (i ≤ j)) := cm_ii (p := fun i j => decide (i ≤ j)) op_le
theorem cm_gt : C2 X H0 Oc .Gt (.va (.int i)) (.va (.int j)) (decide (j < i)) := cm_ii (p := fun i j => decide (j < i)) op_gt
theorem cm_ge : C2 X H0 Oc .GtE (.va (.int i)) (.va (.int j)) (decide (j ≤ i)) := cm_ii (p := fun i j => decide (j ≤ i)) op_ge
/-- values that stand alone -/
def vD : D → V
  | .bl b => .bl b
  | .int i => .int i
  | .str x => .str x
  | _ => .non
def scD : D → Bool
  | .non | .bl _ | .int _ | .str _ => true
  | _ => false
theorem Rep.vD {K : PySem.W.Frag} {H : Hp} {v : V} (h : Rep K H d v) (hs : scD d = true) : v = vD d := by cases d <;> first | exact h | exact absurd hs Bool.false_ne_true
def eqS (d1 d2 : D) : Bool := decide (vD d1 = vD d2)
theorem eqS_int : eqS (.int i) (.int j) = decide (i = j) := by unfold eqS vD; simp
theorem eqS_bl {x y : Bool} : eqS (.bl x) (.bl y) = decide (x = y) := by unfold eqS vD; simp
theorem eqS_str {x y : Str} : eqS (.str x) (.str y) = decide (x = y) := by unfold eqS vD; simp
theorem cm_eqS (h1 : scD d1 = true) (h2 : scD d2 = true) (hs : scal (vD d1) (vD d2) = true) : C2 X H0 Oc .Eq (.va d1) (.va d2) (eqS d1 d2) := ⟨_, op_eq, fun G S H v w Q ⟨O, W⟩ q => by
  obtain ⟨r1, r2, W'⟩ := va2 W
  obtain rfl := r1.vD h1
  obtain rfl := r2.vD h2
  exact ⟨hs, q H ⟨O, W'⟩⟩⟩
theorem cm_neS (h1 : scD d1 = true) (h2 : scD d2 = true) (hs : scal (vD d1) (vD d2) = true) : C2 X H0 Oc .NotEq (.va d1) (.va d2) (!eqS d1 d2) := ⟨_, op_ne, fun G S H v w Q ⟨O, W⟩ q => by
  obtain ⟨r1, r2, W'⟩ := va2 W
  obtain rfl := r1.vD h1
  obtain rfl := r2.vD h2
  exact ⟨hs, q H ⟨O, W'⟩⟩⟩
theorem cm_eqI : C2 X H0 Oc .Eq (.va (.int i)) (.va (.int j)) (decide (i = j)) := eqS_int (i := i) (j := j) ▸ cm_eqS rfl rfl rfl
theorem cm_neI : C2 X H0 Oc .NotEq (.va (.int i)) (.va (.int j)) (!decide (i = j)) := eqS_int (i := i) (j := j) ▸ cm_neS rfl rfl rfl
theorem cm_eqB {x y : Bool} : C2 X H0 Oc .Eq (.va (.bl x)) (.va (.bl y)) (decide (x = y)) := eqS_bl (x := x) (y := y) ▸ cm_eqS rfl rfl rfl
theorem cm_neB {x y : Bool} : C2 X H0 Oc .NotEq (.va (.bl x)) (.va (.bl y)) (!decide (x = y)) := eqS_bl (x := x) (y := y) ▸ cm_neS rfl rfl rfl
theorem cm_eqT {x y : Str} : C2 X H0 Oc .Eq (.va (.str x)) (.va (.str y)) (decide (x = y)) := eqS_str (x := x) (y := y) ▸ cm_eqS rfl rfl rfl
theorem cm_neT {x y : Str} : C2 X H0 Oc .NotEq (.va (.str x)) (.va (.str y)) (!decide (x = y)) := eqS_str (x := x) (y := y) ▸ cm_neS rfl rfl rfl
/-! data of any depth -/
mutual
def py : D → PyData
  | .bl b => .bool b
  | .int i => .int i
  | .str x => .str x
  | .tup ds => .tuple (pys ds)
  | .lst ds => .list (pys ds)
  | .fz ds => .list (pys ds)
  | _ => .none
def pys : List D → List PyData
  | [] => []
  | d :: ds => py d :: pys ds
end
mutual
def isPy : D → Bool
  | .non | .bl _ | .int _ | .str _ => true
  | .tup ds => isPys ds
  | .lst ds => isPys ds
  | .fz ds => isPys ds
  | _ => false
def isPys : List D → Bool
  | [] => true
  | d :: ds => isPy d && isPys ds
end
section
variable {K : PySem.W.Frag} {H Ht : Hp}
mutual
theorem Rep.dp : ∀ {d : D} {v : V}, Rep K H d v → isPy d = true → Dp K H v (py d)
  | .non, _, h, _ => by rw [show _ = _ from h]; exact .non
  | .bl _, _, h, _ => by rw [show _ = _ from h]; exact .bl _
  | .int _, _, h, _ => by rw [show _ = _ from h]; exact .int _
  | .str _, _, h, _ => by rw [show _ = _ from h]; exact .str _
  | .tup ds, _, ⟨a, vs, h1, h2, h3⟩, hp => by rw [h1]; exact .tup (.of h2) (Reps.dp h3 hp)
  | .lst ds, _, ⟨a, vs, h1, h2, h3⟩, hp => by rw [h1]; exact .lst (.of h2) (Reps.dp h3 hp)
  | .fz ds, _, ⟨a, vs, h1, h2, h3⟩, hp => by rw [h1]; exact .lst h2 (Reps.dp h3 hp)
  | .opq _, _, _, hp => absurd hp Bool.false_ne_true
  | .obj .., _, _, hp => absurd hp Bool.false_ne_true
  | .xd .., _, _, hp => absurd hp Bool.false_ne_true
  | .dT .., _, _, hp => absurd hp Bool.false_ne_true
  | .dK .., _, _, hp => absurd hp Bool.false_ne_true
theorem Reps.dp : ∀ {ds : List D} {vs : List V}, Reps K H ds vs → isPys ds = true → DpAll K H vs (pys ds)
  | [], _, h, _ => by rw [show _ = _ from h]; exact .nil
  | d :: ds, _, ⟨v, us, h1, h2, h3⟩, hp => by
    rw [h1]
    have hp' := Bool.and_eq_true_iff.mp hp
    exact .cons (Rep.dp h2 hp'.1) (Reps.dp h3 hp'.2)
end
theorem DpAll.grow (e : Ex H Ht) {vs : List V} {ds : List PyData} (h : DpAll K H vs ds) : DpAll K Ht vs ds := by
  refine DpAll.rec (motive_1 := fun v d _ => Dp K Ht v d) (motive_2 := fun vs ds _ => DpAll K Ht vs ds) .non .bl .int .str (fun h _ ih => .lst (Ex.l e h) ih) (fun h _ ih => .tup (Ex.t e h) ih) .nil (fun _ _ i1 i2 => .cons i1 i2) h
theorem RepB.dp (e : Ex H Ht) : ∀ {d : D} {v : V}, RepB K Ht H d v → isPy d = true → Dp K Ht v (py d)
  | .non, _, h, _ => by rw [show _ = _ from h]; exact .non
  | .bl _, _, h, _ => by rw [show _ = _ from h]; exact .bl _
  | .int _, _, h, _ => by rw [show _ = _ from h]; exact .int _
  | .str _, _, h, _ => by rw [show _ = _ from h]; exact .str _
  | .tup ds, _, ⟨a, vs, h1, h2, h3⟩, hp => by rw [h1]; exact .tup (.of h2) (Y.DpAll.grow e (Reps.dp h3 hp))
  | .lst ds, _, ⟨a, vs, h1, h2, h3⟩, hp => by rw [h1]; exact .lst (.of h2) (Y.DpAll.grow e (Reps.dp h3 hp))
  | .fz ds, _, ⟨a, vs, h1, h2, h3⟩, hp => by rw [h1]; exact .lst h2 (Y.DpAll.grow e (Reps.dp h3 hp))
  | .opq _, _, _, hp => absurd hp Bool.false_ne_true
  | .obj .., _, _, hp => absurd hp Bool.false_ne_true
  | .xd .., _, _, hp => absurd hp Bool.false_ne_true
  | .dT .., _, _, hp => absurd hp Bool.false_ne_true
  | .dK .., _, _, hp => absurd hp Bool.false_ne_true
end
/-- d1 == d2 as Python has it -/
def eqD (d1 d2 : D) : Bool := PyData.eqv (py d1) (py d2)
/-- comparable data -/
def okD (d : D) : Bool := isPy d && SeqAt.shaped (py d)
theorem cm_eqD (hu : X.A.units + 64 < cLine) (h1 : okD d1 = true) (h2 : okD d2 = true) : C2 X H0 Oc .Eq (.bw d1) (.bw d2) (eqD d1 d2) := ⟨_, op_eqD hu, fun G S H v w Q ⟨O, W⟩ q => by
  obtain ⟨r1, r2, W'⟩ := bw2 W
  have q1 := Bool.and_eq_true_iff.mp h1
  have q2 := Bool.and_eq_true_iff.mp h2
  exact ⟨_, _, r1.dp cut_ex q1.1, r2.dp cut_ex q2.1, q1.2, q2.2, q H ⟨O, W'⟩⟩⟩
theorem cm_neD (hu : X.A.units + 64 < cLine) (h1 : okD d1 = true) (h2 : okD d2 = true) : C2 X H0 Oc .NotEq (.bw d1) (.bw d2) (!eqD d1 d2) := ⟨_, op_neD hu, fun G S H v w Q ⟨O, W⟩ q => by
  obtain ⟨r1, r2, W'⟩ := bw2 W
  have q1 := Bool.and_eq_true_iff.mp h1
  have q2 := Bool.and_eq_true_iff.mp h2
  exact ⟨_, _, r1.dp cut_ex q1.1, r2.dp cut_ex q2.1, q1.2, q2.2, q H ⟨O, W'⟩⟩⟩
/-! ### tests -/
theorem et_val {q : Bool} (h : Ev X H0 Oc Γ e (.va (.bl q))) (he : ∀ whole, isTrue e X.env whole = (do let v ← whole; standAt e.pos; holding [v] (truthy v)) := by intro _; rfl) : Et X H0 Oc Γ e q := fun Δ τ σ H Q hl W k =>
  wpT.of (pt_val pe_wp he) (h Δ τ σ H _ hl W fun v H' ⟨O, W'⟩ => by
    obtain ⟨u, h1, h2⟩ := W'.head
    cases h1
    exact ⟨q, h2, k H' ⟨O, W'.pop⟩⟩)
theorem et_not {q : Bool} (h : Et X H0 Oc Γ e q) : Et X H0 Oc Γ (.UnaryOp .Not e pos) (!q) := fun Δ τ σ H Q hl W k => wpT.of (pt_not pt_wp) (h Δ τ σ H _ hl W fun H' W' => k H' W')
theorem et_w {q : Bool} (h : Ew X H0 Oc Γ e q) : Et X H0 Oc Γ e q := fun Δ τ σ H Q hl W k pins s I => h Δ τ σ H Q hl W k _ pins s I
theorem ew_and1 {q : Bool} (h : Et X H0 Oc Γ a q) : Ew X H0 Oc Γ (.BoolOp .And [a] pos) q := fun Δ τ σ H Q hl W k => wpW.of (pw_and1 pt_wp) (h Δ τ σ H _ hl W k)
theorem ew_or1 {q : Bool} (h : Et X H0 Oc Γ a q) : Ew X H0 Oc Γ (.BoolOp .Or [a] pos) q := fun Δ τ σ H Q hl W k => wpW.of (pw_or1 pt_wp) (h Δ τ σ H _ hl W k)
theorem ew_and {q r : Bool} (h : Et X H0 Oc Γ a q) (hr : q = true → Ew X H0 Oc Γ (.BoolOp .And (b :: es) pos) r) : Ew X H0 Oc Γ (.BoolOp .And (a :: b :: es) pos) (q && r) := fun Δ τ σ H Q hl W k =>
  wpW.of (pw_and pt_wp pw_wp) (h Δ τ σ H _ hl W fun H' W' => by
    cases q with
    | true => exact hr rfl Δ τ σ H' Q hl W' k
    | false => exact k H' W')
theorem ew_or {q r : Bool} (h : Et X H0 Oc Γ a q) (hr : q = false → Ew X H0 Oc Γ (.BoolOp .Or (b :: es) pos) r) : Ew X H0 Oc Γ (.BoolOp .Or (a :: b :: es) pos) (q || r) := fun Δ τ σ H Q hl W k =>
  wpW.of (pw_or pt_wp pw_wp) (h Δ τ σ H _ hl W fun H' W' => by
    cases q with
    | false => exact hr rfl Δ τ σ H' Q hl W' k
    | true => exact k H' W')
/-- .. as values -/
theorem ev_one {op : BoolOp} (h : Ev X H0 Oc Γ a s) : Ev X H0 Oc Γ (.BoolOp op [a] pos) s := fun Δ τ σ H Q hl W k => wpE.of (pe_one pe_wp) (h Δ τ σ H Q hl W k)
theorem ev_and {q r : Bool} (h : Ev X H0 Oc Γ a (.va (.bl q))) (hr : q = true → Ev X H0 Oc Γ (.BoolOp .And (b :: es) pos) (.va (.bl r))) : Ev X H0 Oc Γ (.BoolOp .And (a :: b :: es) pos) (.va (.bl (q && r))) := fun Δ τ σ H Q hl W k =>
  wpE.of (pe_and pe_wp pe_wp) (h Δ τ σ H _ hl W fun v H' ⟨O, W'⟩ => by
    obtain ⟨u, h1, h2⟩ := W'.head
    cases h1
    refine ⟨q, h2, ?_⟩
    cases q with
    | true => exact hr rfl Δ τ σ H' Q hl ⟨O, W'.pop⟩ k
    | false => exact k _ H' ⟨O, W'.pop.flat rfl (show Rep X.K H' (.bl false) (.bl false) from rfl)⟩)
theorem ev_or {q r : Bool} (h : Ev X H0 Oc Γ a (.va (.bl q))) (hr : q = false → Ev X H0 Oc Γ (.BoolOp .Or (b :: es) pos) (.va (.bl r))) : Ev X H0 Oc Γ (.BoolOp .Or (a :: b :: es) pos) (.va (.bl (q || r))) := fun Δ τ σ H Q hl W k =>
  wpE.of (pe_or pe_wp pe_wp) (h Δ τ σ H _ hl W fun v H' ⟨O, W'⟩ => by
    obtain ⟨u, h1, h2⟩ := W'.head
    cases h1
    refine ⟨q, h2, ?_⟩
    cases q with
    | false => exact hr rfl Δ τ σ H' Q hl ⟨O, W'.pop⟩ k
    | true => exact k _ H' ⟨O, W'.pop.flat rfl (show Rep X.K H' (.bl true) (.bl true) from rfl)⟩)
theorem ev_not {q : Bool} (h : Ev X H0 Oc Γ a (.va (.bl q))) : Ev X H0 Oc Γ (.UnaryOp .Not a pos) (.va (.bl (!q))) := fun Δ τ σ H Q hl W k =>
  wpE.of (pe_not pe_wp) (h Δ τ σ H _ hl W fun v H' ⟨O, W'⟩ => by
    obtain ⟨u, h1, h2⟩ := W'.head
    cases h1
    exact ⟨q, h2, k _ H' ⟨O, W'.pop.flat rfl (show Rep X.K H' (.bl (!q)) (.bl (!q)) from rfl)⟩⟩)
theorem ev_if {q : Bool} (h : Et X H0 Oc Γ c q) (h1 : q = true → Ev X H0 Oc Γ a s) (h2 : q = false → Ev X H0 Oc Γ b s) : Ev X H0 Oc Γ (.IfExp c a b pos) s := fun Δ τ σ H Q hl W k =>
  wpE.of (pe_ifExp pt_wp pe_wp pe_wp) (h Δ τ σ H _ hl W fun H' W' => by
    cases q with
    | true => exact h1 rfl Δ τ σ H' Q hl W' k
    | false => exact h2 rfl Δ τ σ H' Q hl W' k)
/-- is None -/
def isN : D → Bool
  | .non => true
  | .opq v => decide (v = .non)
  | _ => false
theorem RepB.isN {K : PySem.W.Frag} {Ht H : Hp} {v : V} (h : RepB K Ht H d v) : decide (v = .non) = isN d := by
  cases d with
  | non => rw [show v = .non from h]; rfl
  | opq w => rw [show v = w from h]; rfl
  | bl _ => rw [show v = _ from h]; rfl
  | int _ => rw [show v = _ from h]; rfl
  | str _ => rw [show v = _ from h]; rfl
  | tup ds => obtain ⟨p, _, h, _⟩ := h; rw [h]; rfl
  | lst ds => obtain ⟨p, _, h, _⟩ := h; rw [h]; rfl
  | fz ds => obtain ⟨p, _, h, _⟩ := h; rw [h]; rfl
  | obj C ns ds => obtain ⟨p, _, _, h, _⟩ := h; rw [h]; rfl
  | xd ns ds => obtain ⟨p, _, h, _⟩ := h; rw [h]; rfl
  | dT ns ds => obtain ⟨p, _, h, _⟩ := h; rw [h]; rfl
  | dK ns ds => obtain ⟨p, _, h, _⟩ := h; rw [h]; rfl
  | er a C p ns ds => obtain ⟨_, h, _⟩ := h; rw [h]; rfl
  | slf a C ns ds => obtain ⟨_, _, h, _⟩ := h; rw [h]; rfl
theorem Wf.popB {G : List Sl} {S : List (Option V)} {H : Hp} {v : V} (W : Wf X.K H0 Oc (.bw d :: G) (some v :: S) H) : (∃ O, RepB X.K H (cut H O) d v) ∧ Wf X.K H0 Oc G S H := by
  obtain ⟨O, W⟩ := W
  obtain ⟨u, h1, h2⟩ := W.head
  cases h1
  exact ⟨⟨O, h2⟩, O, W.pop⟩
theorem Wf.bl {G : List Sl} {S : List (Option V)} {H : Hp} {q : Bool} (W : Wf X.K H0 Oc G S H) : Wf X.K H0 Oc (.va (.bl q) :: G) (some (.bl q) :: S) H := let ⟨O, W⟩ := W; ⟨O, W.flat rfl (show Rep X.K H (.bl q) (.bl q) from rfl)⟩
theorem ev_isN (ha : Ev X H0 Oc Γ a (.bw d)) {k pos'} : Ev X H0 Oc Γ (.Compare a [.Is] [.Constant .none k pos'] pos) (.va (.bl (isN d))) := fun Δ τ σ H Q hl W q =>
  wpE.of (pe_cmp (pc_isN pe_wp) rfl) (ha Δ τ σ H _ hl W fun v H' W' => by
    obtain ⟨⟨O, h⟩, W2⟩ := W'.popB
    rw [h.isN]
    exact q _ H' W2.bl)
theorem et_isN (ha : Ev X H0 Oc Γ a (.bw d)) {k pos'} : Et X H0 Oc Γ (.Compare a [.Is] [.Constant .none k pos'] pos) (isN d) := fun Δ τ σ H Q hl W q =>
  wpT.of (pt_cmp (pc_isN pe_wp) rfl) (ha Δ τ σ H _ hl W fun v H' W' => by
    obtain ⟨⟨O, h⟩, W2⟩ := W'.popB
    exact ⟨_, rfl, by rw [h.isN]; exact q H' W2⟩)
theorem et_notN (ha : Ev X H0 Oc Γ a (.bw d)) {k pos'} : Et X H0 Oc Γ (.Compare a [.IsNot] [.Constant .none k pos'] pos) (!isN d) := fun Δ τ σ H Q hl W q =>
  wpT.of (pt_cmp (pc_notN pe_wp) rfl) (ha Δ τ σ H _ hl W fun v H' W' => by
    obtain ⟨⟨O, h⟩, W2⟩ := W'.popB
    exact ⟨_, rfl, by rw [h.isN]; exact q H' W2⟩)
/-! ### arguments, displays -/
theorem ea_nil : Ea X H0 Oc Γ [] [] := fun Δ τ σ H Q hl ⟨O, W⟩ k => wpA.of pa_nil (k [] O H W rfl)
theorem ea_cons (ha : Ev X H0 Oc Γ a s) (hr : Ea X H0 Oc Γ es ss) (hst : starEach (a :: es) X.env = (false, eval a X.env) :: starEach es X.env := by rfl) : Ea X H0 Oc Γ (a :: es) (s :: ss) := fun Δ τ σ H Q hl W k =>
  wpA.of (pa_cons pe_wp pa_wp hst) (ha Δ τ σ H _ hl W fun v H1 W1 => hr (s :: Δ) (some v :: τ) σ H1 _ (by simp [hl]) W1 fun vs O H2 W2 ok => k (v :: vs) O H2 W2.pop ⟨v, vs, rfl, W2.head, ok⟩)
end
end Y

namespace Y
open PySem L2
section
variable {X : Cx} {H0 : Hp} {Oc : List Addr} {Γ : List Sl} {e a b c : Expr} {es : List Expr} {s s1 s2 : Sl} {ss : List Sl} {d d1 d2 : D} {ds ds1 ds2 : List D} {i j : Int} {pos p2 : Pos}
/-! ### displays -/
/-- slots whose objects are all given up at once -/
def dats : List Sl → Option (List D)
  | [] => some []
  | .va d :: ss => (dats ss).map (d :: ·)
  | _ => none
theorem ArgsOk.reps {K : PySem.W.Frag} {O : List Addr} {H : Hp} : ∀ {ss : List Sl} {vs : List V} {ds : List D}, ArgsOk K H0 O H ss vs → dats ss = some ds → Reps K (cut H O) ds vs
  | [], _, _, h, e => by
    cases e
    exact h
  | .va d :: ss, _, _, ⟨v, us, h1, ⟨w, h2, h3⟩, h4⟩, e => by
    cases q : dats ss with
    | none => simp [dats, q] at e
    | some es =>
      simp only [dats, q, Option.map_some, Option.some.injEq] at e
      subst e
      cases h2
      exact ⟨v, us, h1, h3, ArgsOk.reps h4 q⟩
  | .no :: _, _, _, _, e => by cases e
  | .ow _ :: _, _, _, _, e => by cases e
  | .br _ :: _, _, _, _, e => by cases e
  | .bw _ :: _, _, _, _, e => by cases e
theorem Reps.len' {K : PySem.W.Frag} {H : Hp} {vs : List V} (h : Reps K H ds vs) (hn : ds.length ≤ 1000000) : vs.length ≤ sizeLine := by
  rw [Reps.len h, sizeLine_eq]
  omega
theorem ev_tup {x1} (h : Ea X H0 Oc Γ es ss) (hd : dats ss = some ds) (hn : ds.length ≤ 1000000) : Ev X H0 Oc Γ (.Tuple es x1 pos) (.va (.tup ds)) := fun Δ τ σ H Q hl W q =>
  wpE.of (pe_tup pa_wp) (h Δ τ σ H _ hl W fun vs O H' W' ok => by
    have r := ok.reps hd
    exact ⟨r.len' hn, fun p hp => q _ _ ⟨O, W'.newTup hp r⟩⟩)
theorem ev_lst (h : Ea X H0 Oc Γ es ss) (hd : dats ss = some ds) (hn : ds.length ≤ 1000000) : Ev X H0 Oc Γ (.List es pos) (.ow (.lst ds)) := fun Δ τ σ H Q hl W q =>
  wpE.of (pe_lst pa_wp) (h Δ τ σ H _ hl W fun vs O H' W' ok => by
    have r := ok.reps hd
    exact ⟨r.len' hn, fun p hp => q _ _ ⟨_, W'.newLst hp r⟩⟩)
/-! ### items, slices -/
theorem Reps.atI {K : PySem.W.Frag} {H : Hp} {vs : List V} (h : Reps K H ds vs) (hi : L2.atI ds i = some d) : ∃ v, L2.atI vs i = some v ∧ Rep K H d v := by
  unfold L2.atI at hi ⊢
  rw [Reps.len h]
  cases q : ixN ds.length i with
  | none => rw [q] at hi; cases hi
  | some k =>
    rw [q] at hi
    exact Reps.get h hi
theorem ev_ixL (ha : Ev X H0 Oc Γ a (.bw (.lst ds))) (hb : Ev X H0 Oc Γ b (.va (.int i))) (hi : L2.atI ds i = some d) (hs : PlainIx b := by exact fun _ _ => rfl) : Ev X H0 Oc Γ (.Subscript a b pos) (.va d) :=
  ev_op2 (fun ha hb => pe_ix ix_list ha hb hs) ha hb fun G S H v w Q ⟨O, W⟩ q => by
    obtain ⟨u, h1, h2⟩ := W.head
    obtain ⟨u', h1', p, vs, h2', h3, h4⟩ := W.pop.head
    cases h1
    cases h1'
    obtain ⟨z, hz, rz⟩ := h4.atI hi
    exact ⟨p, vs, i, z, h2', h2, .of h3, hz, q z H ⟨O, W.pop.pop.push ⟨z, rfl, rz⟩ fun _ z => nomatch z⟩⟩
theorem ev_ixF (ha : Ev X H0 Oc Γ a (.bw (.fz ds))) (hb : Ev X H0 Oc Γ b (.va (.int i))) (hi : L2.atI ds i = some d) (hs : PlainIx b := by exact fun _ _ => rfl) : Ev X H0 Oc Γ (.Subscript a b pos) (.va d) :=
  ev_op2 (fun ha hb => pe_ix ix_list ha hb hs) ha hb fun G S H v w Q ⟨O, W⟩ q => by
    obtain ⟨u, h1, h2⟩ := W.head
    obtain ⟨u', h1', p, vs, h2', h3, h4⟩ := W.pop.head
    cases h1
    cases h1'
    obtain ⟨z, hz, rz⟩ := h4.atI hi
    exact ⟨p, vs, i, z, h2', h2, h3, hz, q z H ⟨O, W.pop.pop.push ⟨z, rfl, rz⟩ fun _ z => nomatch z⟩⟩
theorem ev_ixT (ha : Ev X H0 Oc Γ a (.bw (.tup ds))) (hb : Ev X H0 Oc Γ b (.va (.int i))) (hi : L2.atI ds i = some d) (hs : PlainIx b := by exact fun _ _ => rfl) : Ev X H0 Oc Γ (.Subscript a b pos) (.va d) :=
  ev_op2 (fun ha hb => pe_ix ix_tup ha hb hs) ha hb fun G S H v w Q ⟨O, W⟩ q => by
    obtain ⟨u, h1, h2⟩ := W.head
    obtain ⟨u', h1', p, vs, h2', h3, h4⟩ := W.pop.head
    cases h1
    cases h1'
    obtain ⟨z, hz, rz⟩ := h4.atI hi
    exact ⟨p, vs, i, z, h2', h2, .of h3, hz, q z H ⟨O, W.pop.pop.push ⟨z, rfl, rz⟩ fun _ z => nomatch z⟩⟩
/-- a slice's part -/
def Eo (X : Cx) (H0 : Hp) (Oc : List Addr) (Γ : List Sl) (e : Option Expr) (o : Option Int) : Prop := ∃ t : TO, PO X e t ∧ ∀ (Δ : List Sl) (τ : List (Option V)) (σ : L2.St) (H : Hp) (Q : Option Int → Hp → Prop), τ.length = Δ.length → Wf X.K H0 Oc (Δ ++ Γ) (τ ++ σ) H →
  (∀ H', Wf X.K H0 Oc (Δ ++ Γ) (τ ++ σ) H' → Q o H') → t σ H Q
theorem eo_no : Eo X H0 Oc Γ none none := ⟨_, po_none, fun Δ τ σ H Q _ W q => q H W⟩
theorem eo_at (h : Ev X H0 Oc Γ e (.va (.int i))) : Eo X H0 Oc Γ (some e) (some i) := ⟨_, po_some pe_wp, fun Δ τ σ H Q hl W q => h Δ τ σ H _ hl W fun v H' ⟨O, W'⟩ => by
  obtain ⟨u, h1, h2⟩ := W'.head
  cases h1
  exact ⟨i, h2, q H' ⟨O, W'.pop⟩⟩⟩
def cutD {α : Type} (xs : List α) (lo hi : Option Int) : List α := (xs.drop (HT.sIx xs.length 0 lo)).take (HT.sIx xs.length xs.length hi - HT.sIx xs.length 0 lo)
theorem cutD_map {α β : Type} {f : α → β} {xs : List α} {lo hi : Option Int} : cutD (xs.map f) lo hi = (cutD xs lo hi).map f := by
  unfold cutD
  rw [List.length_map, List.map_take, List.map_drop]
theorem Reps.cut {K : PySem.W.Frag} {H : Hp} {vs : List V} {lo hi : Option Int} (h : Reps K H ds vs) : Reps K H (cutD ds lo hi) (cutV vs lo hi) := by
  unfold cutD cutV
  rw [Reps.len h]
  exact Reps.take _ (Reps.drop _ h)
theorem ev_slL {lo hi : Option Expr} {l h : Option Int} (ha : Ev X H0 Oc Γ a (.bw (.lst ds))) (hlo : Eo X H0 Oc Γ lo l) (hhi : Eo X H0 Oc Γ hi h) : Ev X H0 Oc Γ (.Subscript a (.Slice lo hi none p2) pos) (.ow (.lst (cutD ds l h))) := fun Δ τ σ H Q hl W q => by
  obtain ⟨tl, pl, kl⟩ := hlo
  obtain ⟨th, ph, kh⟩ := hhi
  refine wpE.of (pe_slice sl_list pe_wp pl ph) ?_
  refine ha Δ τ σ H _ hl W fun v H1 W1 => ?_
  refine kl (.bw (.lst ds) :: Δ) (some v :: τ) σ H1 _ (by simp [hl]) W1 fun H2 W2 => ?_
  refine kh (.bw (.lst ds) :: Δ) (some v :: τ) σ H2 _ (by simp [hl]) W2 fun H3 ⟨O, W3⟩ => ?_
  obtain ⟨u', h1', p, vs, h2', h3, h4⟩ := W3.head
  cases h1'
  exact ⟨p, vs, h2', .of h3, fun x hx => q _ _ ⟨_, W3.pop.newLst hx h4.cut⟩⟩
theorem whole_cut {vs : List V} {l h : Option Int} (hw : HT.sIx vs.length 0 l = 0 ∧ HT.sIx vs.length vs.length h = vs.length) : cutV vs l h = vs := by
  unfold cutV
  rw [hw.1, hw.2]
  simp
theorem ev_slT {lo hi : Option Expr} {l h : Option Int} (ha : Ev X H0 Oc Γ a (.va (.tup ds))) (hlo : Eo X H0 Oc Γ lo l) (hhi : Eo X H0 Oc Γ hi h) : Ev X H0 Oc Γ (.Subscript a (.Slice lo hi none p2) pos) (.va (.tup (cutD ds l h))) := fun Δ τ σ H Q hl W q => by
  obtain ⟨tl, pl, kl⟩ := hlo
  obtain ⟨th, ph, kh⟩ := hhi
  refine wpE.of (pe_slice sl_tupA pe_wp pl ph) ?_
  refine ha Δ τ σ H _ hl W fun v H1 W1 => ?_
  refine kl (.va (.tup ds) :: Δ) (some v :: τ) σ H1 _ (by simp [hl]) W1 fun H2 W2 => ?_
  refine kh (.va (.tup ds) :: Δ) (some v :: τ) σ H2 _ (by simp [hl]) W2 fun H3 ⟨O, W3⟩ => ?_
  obtain ⟨u', h1', p, vs, h2', h3, h4⟩ := W3.head
  cases h1'
  refine ⟨p, vs, h2', .of (cut_ex _ _ h3), fun hw => ?_, fun hw x hx => q _ _ ⟨O, W3.pop.newTup hx h4.cut⟩⟩
  refine q _ H3 ⟨O, W3.pop.push ⟨.ref p, rfl, p, _, rfl, h3, ?_⟩ fun _ z => nomatch z⟩
  have := h4.cut (lo := l) (hi := h)
  rw [whole_cut hw] at this
  exact this
/-! ### joined, repeated -/
theorem ev_catL (ha : Ev X H0 Oc Γ a (.bw (.lst ds1))) (hb : Ev X H0 Oc Γ b (.bw (.lst ds2))) (hn : ds1.length + ds2.length ≤ 1000000) : Ev X H0 Oc Γ (.BinOp a .Add b pos) (.ow (.lst (ds1 ++ ds2))) :=
  ev_op2 (fun ha hb => pe_op op_cat ha hb) ha hb fun G S H v w Q ⟨O, W⟩ q => by
    obtain ⟨⟨p, vs, e1, h1, r1⟩, ⟨p', us, e2, h2, r2⟩, W'⟩ := bw2 W
    refine ⟨p, p', vs, us, e1, e2, h1, h2, ?_, fun x hx => q _ _ ⟨_, W'.newLst hx (r1.app r2)⟩⟩
    rw [r1.len, r2.len, sizeLine_eq]
    omega
theorem ev_catT (ha : Ev X H0 Oc Γ a (.va (.tup ds1))) (hb : Ev X H0 Oc Γ b (.va (.tup ds2))) (hn : ds1.length + ds2.length ≤ 1000000) : Ev X H0 Oc Γ (.BinOp a .Add b pos) (.va (.tup (ds1 ++ ds2))) :=
  ev_op2 (fun ha hb => pe_op op_catA ha hb) ha hb fun G S H v w Q ⟨O, W⟩ q => by
    obtain ⟨⟨p, vs, e1, h1, r1⟩, ⟨p', us, e2, h2, r2⟩, W'⟩ := va2 W
    have r := r1.app r2
    refine ⟨p, p', vs, us, e1, e2, .of (cut_ex _ _ h1), .of (cut_ex _ _ h2), ?_, fun z => ?_, fun _ z => ?_, fun _ _ x hx => q _ _ ⟨_, W'.newTup hx r⟩⟩
    · rw [r1.len, r2.len, sizeLine_eq]
      omega
    · rw [z, List.nil_append] at r
      exact q _ H ⟨O, W'.push ⟨.ref p', rfl, p', _, rfl, h2, r⟩ fun _ z => nomatch z⟩
    · rw [z, List.append_nil] at r
      exact q _ H ⟨O, W'.push ⟨.ref p, rfl, p, _, rfl, h1, r⟩ fun _ z => nomatch z⟩
theorem Reps.flat {K : PySem.W.Frag} {H : Hp} {vs : List V} (h : Reps K H ds vs) : ∀ n : Nat, Reps K H (List.replicate n ds).flatten (List.replicate n vs).flatten
  | 0 => rfl
  | n + 1 => by
    rw [List.replicate_succ, List.replicate_succ, List.flatten_cons, List.flatten_cons]
    exact h.app (Reps.flat h n)
theorem ev_repL (ha : Ev X H0 Oc Γ a (.bw (.lst ds))) (hb : Ev X H0 Oc Γ b (.va (.int i))) (h1 : i ≤ 1000000) (h2 : -1000000 ≤ i) (hn : ds.length * i.toNat ≤ 1000000) : Ev X H0 Oc Γ (.BinOp a .Mult b pos) (.ow (.lst (List.replicate i.toNat ds).flatten)) :=
  ev_op2 (fun ha hb => pe_op op_rep ha hb) ha hb fun G S H v w Q ⟨O, W⟩ q => by
    obtain ⟨u, g1, g2⟩ := W.head
    obtain ⟨u', g1', p, vs, e1, g3, r⟩ := W.pop.head
    cases g1
    cases g1'
    refine ⟨p, i, vs, e1, g2, g3, by omega, by omega, ?_, fun x hx => q _ _ ⟨_, W.pop.pop.newLst hx (r.flat _)⟩⟩
    rw [r.len, sizeLine_eq]
    omega
theorem ev_revL {k : Nat} {p1 p3 p4 : Pos} (ha : Ev X H0 Oc Γ a (.bw (.lst ds))) : Ev X H0 Oc Γ (.Subscript a (.Slice none none (some (.UnaryOp .USub (.Constant (.int 1) k p1) p3)) p4) pos) (.ow (.lst ds.reverse)) := fun Δ τ σ H Q hl W q =>
  wpE.of (pe_revL pe_wp) (ha Δ τ σ H _ hl W fun v H' ⟨O, W'⟩ => by
    obtain ⟨u, g1, p, vs, e1, g3, r⟩ := W'.head
    cases g1
    exact ⟨p, vs, e1, .of g3, fun x hx => q _ _ ⟨_, W'.pop.newLst hx r.rev⟩⟩)
/-! ### calls of what is built in -/
/-- one argument -/
theorem ev_b1 {id : String} {x : Str} {p : Pos} {r : List V → Hp → VK → Prop} (hc : CallR X (.builtin id) r) (ha : Ev X H0 Oc Γ a s1) (hm : X.mg x = none) (hv : bootBuiltins x = some (.builtin id)) (hg : Gl X x)
    (hr : ∀ (G : List Sl) (S : List (Option V)) (H : Hp) (v : V) (Q : VK), Wf X.K H0 Oc (s1 :: G) (some v :: S) H → (∀ u H', Wf X.K H0 Oc (s :: G) (some u :: S) H' → Q u H') → r [v] H Q)
    (hn : x ≠ "__name__") (hd : (x == ("__debug__" : Str)) = false) (he : starEach [a] X.env = (false, eval a X.env) :: starEach [] X.env) (hpl : (backTo pos (starEach [] X.env)).any (·.1) = false) : Ev X H0 Oc Γ (.Call (.Name x p) [a] [] pos) s := fun Δ τ σ H Q hl W q =>
  wpE.of (pe_callB hc hg hm hv (pa_cons pe_wp pa_nil he) hn hd he hpl) (ha Δ τ σ H _ hl W fun v H1 W1 => hr _ _ H1 v Q W1 q)
theorem ev_t1 {T : String} {x : Str} {p : Pos} {r : List V → Hp → VK → Prop} (hc : CallR X (.type T) r) (ha : Ev X H0 Oc Γ a s1) (hm : X.mg x = none) (hv : bootBuiltins x = some (.type T)) (hg : Gl X x)
    (hr : ∀ (G : List Sl) (S : List (Option V)) (H : Hp) (v : V) (Q : VK), Wf X.K H0 Oc (s1 :: G) (some v :: S) H → (∀ u H', Wf X.K H0 Oc (s :: G) (some u :: S) H' → Q u H') → r [v] H Q)
    (hn : x ≠ "__name__") (hd : (x == ("__debug__" : Str)) = false) (he : starEach [a] X.env = (false, eval a X.env) :: starEach [] X.env) (hpl : (backTo pos (starEach [] X.env)).any (·.1) = false) : Ev X H0 Oc Γ (.Call (.Name x p) [a] [] pos) s := fun Δ τ σ H Q hl W q =>
  wpE.of (pe_callTy hc hg hm hv (pa_cons pe_wp pa_nil he) hn hd he hpl) (ha Δ τ σ H _ hl W fun v H1 W1 => hr _ _ H1 v Q W1 q)
/-- the items of a list or tuple -/
def seqD : D → Option (List D)
  | .lst ds => some ds
  | .tup ds => some ds
  | .fz ds => some ds
  | _ => none
theorem RepB.seq {K : PySem.W.Frag} {Ht H : Hp} {v : V} (h : RepB K Ht H d v) (hd : seqD d = some ds) : ∃ p vs, v = .ref p ∧ (SqL K Ht p vs ∨ SqT K Ht p vs) ∧ Reps K H ds vs := by
  cases d <;> first | cases hd
  · obtain ⟨p, vs, h1, h2, h3⟩ := h; exact ⟨p, vs, h1, .inr (.of h2), h3⟩
  · obtain ⟨p, vs, h1, h2, h3⟩ := h; exact ⟨p, vs, h1, .inl (.of h2), h3⟩
  · obtain ⟨p, vs, h1, h2, h3⟩ := h; exact ⟨p, vs, h1, .inl h2, h3⟩
theorem ev_len {p : Pos} (ha : Ev X H0 Oc Γ a (.bw d)) (hd : seqD d = some ds) (hm : X.mg "len" = none) (hg : Gl X "len") (he : starEach [a] X.env = (false, eval a X.env) :: starEach [] X.env) (hpl : (backTo pos (starEach [] X.env)).any (·.1) = false) :
    Ev X H0 Oc Γ (.Call (.Name "len" p) [a] [] pos) (.va (.int ds.length)) := ev_b1 call_len_seq ha hm PySem.boot_len hg (fun G S H v Q W q => by
      obtain ⟨⟨O, h⟩, O', W'⟩ := W.popB
      obtain ⟨p, vs, e, hq, r⟩ := h.seq hd
      exact ⟨p, vs, by rw [e], hq, q _ H ⟨O', W'.flat rfl (show Rep X.K H (.int ds.length) (.int vs.length) by rw [r.len]; rfl)⟩⟩) (by decide) (by decide) he hpl
theorem ev_list {p : Pos} (ha : Ev X H0 Oc Γ a (.bw d)) (hd : seqD d = some ds) (hm : X.mg "list" = none) (hg : Gl X "list") (he : starEach [a] X.env = (false, eval a X.env) :: starEach [] X.env) (hpl : (backTo pos (starEach [] X.env)).any (·.1) = false) :
    Ev X H0 Oc Γ (.Call (.Name "list" p) [a] [] pos) (.ow (.lst ds)) := ev_t1 call_list_of ha hm (by decide +kernel) hg (fun G S H v Q ⟨O, W⟩ q => by
      obtain ⟨u, g1, h⟩ := W.head
      cases g1
      obtain ⟨p, vs, e, hq, r⟩ := h.seq hd
      exact ⟨p, vs, by rw [e], hq, fun x hx => q _ _ ⟨_, W.pop.newLst hx r⟩⟩) (by decide) (by decide) he hpl
theorem ev_tupL {p : Pos} (ha : Ev X H0 Oc Γ a (.bw (.lst ds))) (hm : X.mg "tuple" = none) (hg : Gl X "tuple") (he : starEach [a] X.env = (false, eval a X.env) :: starEach [] X.env) (hpl : (backTo pos (starEach [] X.env)).any (·.1) = false) :
    Ev X H0 Oc Γ (.Call (.Name "tuple" p) [a] [] pos) (.va (.tup ds)) := ev_t1 call_tuple_of ha hm (by decide +kernel) hg (fun G S H v Q ⟨O, W⟩ q => by
      obtain ⟨u, g1, p, vs, e, hq, r⟩ := W.head
      cases g1
      exact ⟨p, vs, by rw [e], .inl ⟨.of hq, fun x hx => q _ _ ⟨_, W.pop.newTup hx r⟩⟩⟩) (by decide) (by decide) he hpl
theorem ev_tupT {p : Pos} (ha : Ev X H0 Oc Γ a (.va (.tup ds))) (hm : X.mg "tuple" = none) (hg : Gl X "tuple") (he : starEach [a] X.env = (false, eval a X.env) :: starEach [] X.env) (hpl : (backTo pos (starEach [] X.env)).any (·.1) = false) :
    Ev X H0 Oc Γ (.Call (.Name "tuple" p) [a] [] pos) (.va (.tup ds)) := ev_t1 call_tuple_of ha hm (by decide +kernel) hg (fun G S H v Q ⟨O, W⟩ q => by
      obtain ⟨u, g1, p, vs, e, hq, r⟩ := id W.head
      cases g1
      refine ⟨p, vs, by rw [e], .inr ⟨.of (cut_ex _ _ hq), ?_⟩⟩
      have := q v H ⟨O, W⟩
      rw [e] at this
      exact this) (by decide) (by decide) he hpl
theorem ev_int1 {p : Pos} (ha : Ev X H0 Oc Γ a (.va (.int i))) (hm : X.mg "int" = none) (hg : Gl X "int") (he : starEach [a] X.env = (false, eval a X.env) :: starEach [] X.env) (hpl : (backTo pos (starEach [] X.env)).any (·.1) = false) :
    Ev X H0 Oc Γ (.Call (.Name "int" p) [a] [] pos) (.va (.int i)) := ev_t1 call_int1 ha hm (by decide +kernel) hg (fun G S H v Q ⟨O, W⟩ q => by
      obtain ⟨u, g1, e⟩ := W.head
      cases g1
      exact .inl ⟨i, by rw [show v = _ from e], q _ _ ⟨O, W.pop.flat rfl (show Rep X.K H (.int i) (.int i) from rfl)⟩⟩) (by decide) (by decide) he hpl
end
end Y

namespace Y
open PySem L2

/-! ## what a def promises, in terms of data -/
/-- how a statement or a body ends -/
inductive Out where
  | nx (Γ : List Sl) | ret (s : Sl) | brk (Γ : List Sl) | cnt (Γ : List Sl) | exc (C : Addr) (ns : List Str) (ds : List D) (Γ : Option (List Sl))
/-- the arguments' slots and the end that is promised for them -/
abbrev Pm := List Sl → Out → Prop
/-- a slot that may be handed back -/
def Sl.res : Sl → Bool
  | .va _ | .ow _ | .no => true
  | _ => false
/-- a slot as a callee has it -/
def Sl.arg : Sl → Sl
  | .ow d => .br d
  | .bw d => .br d
  | s => s
section
variable (K : PySem.W.Frag)
def SatR (H0 : Hp) (Oc : List Addr) (Q : VK) (s : Sl) : Prop := ∀ v H', Wf K H0 Oc [s] [some v] H' → Q v H'
def SatX (H0 : Hp) (Oc : List Addr) (E : XK) (C : Addr) (ns : List Str) (ds : List D) : Prop := ∀ d H', Wf K H0 Oc [.va (.xd ns ds)] [some (.ref d)] H' → E (.ref C) (some d) H'
def SatF (H0 : Hp) (Oc : List Addr) (Q : VK) (E : XK) : Out → Prop
  | .ret s => SatR K H0 Oc Q s
  | .exc C ns ds _ => SatX K H0 Oc E C ns ds
  | _ => False
def mkSp (P : Pm) : Sp := fun vs H Q E => ∃ Oc Γ o, P Γ o ∧ Wf K H Oc Γ (vs.map some) H ∧ SatF K H Oc Q E o
/-- __init__: the object in the making is one's own -/
def SatI (H0 : Hp) (Oc : List Addr) (self : V) (Q : VK) (E : XK) : Out → Prop
  | .ret s => ∀ H', Wf K H0 Oc [s] [some self] H' → Q .non H'
  | .exc C ns ds _ => SatX K H0 Oc E C ns ds
  | _ => False
def mkSpI (C : Addr) (P : Pm) : Sp := fun vs H Q E => ∃ H0 Oc Γ o self us, P Γ o ∧ vs = self :: us ∧ Wf K H0 Oc (.ow (.obj C [] []) :: Γ) (vs.map some) H ∧ SatI K H0 Oc self Q E o
end
/-- a def of the module -/
structure FnG (Pr : Program) (w : World) (K : PySem.W.Frag) (mg : Str → Option Value) (base : Heap) (x : Str) (k : Nat) (ps : List Str) (P : Pm) : Prop where
  ex : ∃ f fd, FnOk Pr w K mg base (L2N.CX Pr w) k f fd ps (mkSp K P) ∧ mg x = some (.ref f) ∧ PySem.W.keepIn K (.ref f) = true ∧ L2.Binds K fd ps []
/-- a method of the class at C -/
structure MtG (Pr : Program) (w : World) (K : PySem.W.Frag) (mg : Str → Option Value) (base : Heap) (C : Addr) (m : Str) (k : Nat) (ps : List Str) (P : Pm) : Prop where
  ex : ∃ f fd, FnOk Pr w K mg base (L2N.CX Pr w) k f fd ps (mkSp K P) ∧ Meth K C m f ∧ L2.Binds K fd ps []
/-- a class with its __init__ -/
structure ClG (Pr : Program) (w : World) (K : PySem.W.Frag) (mg : Str → Option Value) (base : Heap) (x : Str) (C : Addr) (k : Nat) (ps : List Str) (P : Pm) : Prop where
  ex : ∃ f fd, FnOk Pr w K mg base (L2N.CX Pr w) k f fd ps (mkSpI K C P) ∧ Mk K C f ∧ mg x = some (.ref C) ∧ L2.Binds K fd ps []
/-- a property -/
structure PrG (Pr : Program) (w : World) (K : PySem.W.Frag) (mg : Str → Option Value) (base : Heap) (C : Addr) (m : Str) (k : Nat) (ps : List Str) (P : Pm) : Prop where
  ex : ∃ p f fd, FnOk Pr w K mg base (L2N.CX Pr w) k f fd ps (mkSp K P) ∧ PropOf K C m p f ∧ L2.Binds K fd ps []

section
variable {K : PySem.W.Frag} {H0 H H' : Hp} {O Oc : List Addr} {G : List Sl} {S : List (Option V)} {s : Sl} {ss : List Sl} {vs : List V} {v : V}
theorem SlOk.arg (e : Ex H0 H) (h : SlOk K H0 O H s (some v)) : SlOk K H O H s.arg (some v) := by
  cases s with
  | no => trivial
  | va d => exact h
  | ow d => exact ⟨v, rfl, h.b e rfl⟩
  | br d => exact ⟨v, rfl, h.b e rfl⟩
  | bw d => exact ⟨v, rfl, h.b e rfl⟩
theorem arg_not : ∀ {ss : List Sl} {i : Nat} {d : D}, (ss.map Sl.arg)[i]? = some (.ow d) → False := fun {ss i d} h => by
  rw [List.getElem?_map] at h
  cases q : ss[i]? with
  | none => rw [q] at h; cases h
  | some s' =>
    rw [q] at h
    cases s' <;> cases h
theorem ArgsOk.len : ∀ {ss : List Sl} {vs : List V}, ArgsOk K H0 O H ss vs → vs.length = ss.length
  | [], _, h => by rw [show _ = _ from h] <;> rfl
  | _ :: _, _, ⟨_, _, h1, _, h3⟩ => by rw [h1, List.length_cons, List.length_cons, ArgsOk.len h3]
theorem ArgsOk.at : ∀ {ss : List Sl} {vs : List V} {i : Nat} {s : Sl} {x : Option V}, ArgsOk K H0 O H ss vs → ss[i]? = some s → (vs.map some)[i]? = some x → ∃ v, x = some v ∧ SlOk K H0 O H s (some v)
  | [], _, _, _, _, _, e, _ => by simp at e
  | _ :: _, _, 0, _, _, ⟨v, _, h1, h2, _⟩, e, f => by
    subst h1
    have e1 := Option.some.inj e
    have e2 := Option.some.inj f
    subst e1
    exact ⟨v, e2.symm, h2⟩
  | _ :: _, _, i + 1, _, _, ⟨_, us, h1, _, h3⟩, e, f => by
    subst h1
    exact ArgsOk.at (i := i) h3 e f
/-- the callee's view of its arguments -/
theorem WfO.callee (W : WfO K H0 Oc O G S H) (ok : ArgsOk K H0 O H ss vs) : Wf K H O (ss.map Sl.arg) (vs.map some) H := by
  refine ⟨O, fun a z => z, fun a z => .inl z, W.live, W.live, fun _ _ z => z, by rw [List.length_map, List.length_map, ok.len], fun i s x h1 h2 => ?_, fun i j p d d' h1 _ _ _ => (arg_not h1).elim⟩
  rw [List.getElem?_map] at h1
  cases q : ss[i]? with
  | none => rw [q] at h1; cases h1
  | some s' =>
    rw [q] at h1
    cases h1
    obtain ⟨v, rfl, h⟩ := ok.at q h2
    exact h.arg W.ex
theorem cut_own2 {O2 : List Addr} (hn : ∀ a ∈ O2, a ∈ O ∨ H a = none) (e : Ex H H') : Ex (cut H O) (cut H' O2) := fun a o h => by
  unfold cut at h ⊢
  split at h
  · cases h
  · rename_i n
    rw [if_neg fun z => ?_]
    · exact e _ _ h
    · rcases hn a z with q | q
      · exact n q
      · rw [q] at h; cases h
theorem SlOk.later {O2 : List Addr} {x : Option V} (sub : ∀ a ∈ O, a ∈ O2) (hn : ∀ a ∈ O2, a ∈ O ∨ H a = none) (e : Ex H H') : ∀ {s : Sl}, SlOk K H0 O H s x → SlOk K H0 O2 H' s x
  | .no, _ => trivial
  | .va _, ⟨v, h1, h2⟩ => ⟨v, h1, Rep.mono (cut_own2 hn e) h2⟩
  | .ow _, ⟨q, o, h1, h2, h3, h4, h5⟩ => ⟨q, o, h1, sub _ h2, h3, e _ _ h4, RepH.mono (cut_own2 hn e) h5⟩
  | .br _, ⟨v, h1, h2⟩ => ⟨v, h1, RepB.mono (fun _ _ z => z) (cut_own2 hn e) h2⟩
  | .bw _, ⟨v, h1, h2⟩ => ⟨v, h1, RepB.mono e (cut_own2 hn e) h2⟩
/-- behind a call -/
theorem WfO.after (W : WfO K H0 Oc O G S H) (W2 : Wf K H O [s] [some v] H') (hs : s.res = true) : Wf K H0 Oc (s :: G) (some v :: S) H' := by
  obtain ⟨O2, W2⟩ := W2
  have e := W2.ex
  have h0 : ∀ {p}, H p = none → H0 p = none := fun {p} z => by
    cases q : H0 p with
    | none => rfl
    | some u => rw [W.ex _ _ q] at z; cases z
  refine ⟨O2, fun a z => W2.sub a (W.sub a z), fun a z => (W2.new a z).elim (W.new a) fun q => .inr (h0 q), W.old, W2.live, Ex.tr W.ex e, by simp [W.len], fun i s' x h1 h2 => ?_, ?_⟩
  · cases i with
    | zero =>
      have e1 := Option.some.inj h1
      have e2 := Option.some.inj h2
      subst e1
      subst e2
      have hh := W2.head
      cases s with
      | no => trivial
      | va d => exact hh
      | ow d =>
        obtain ⟨p, o, q1, q2, q3, q4, q5⟩ := hh
        exact ⟨p, o, q1, q2, h0 q3, q4, q5⟩
      | br d => exact absurd hs Bool.false_ne_true
      | bw d => exact absurd hs Bool.false_ne_true
    | succ i => exact (W.ok i s' x h1 h2).later W2.sub W2.new e
  · have newer : ∀ {p : Addr} {d : D}, some s = some (.ow d) → some (some v) = some (some (V.ref p)) → ∀ {i : Nat} {d' : D}, G[i]? = some (.ow d') → S[i]? = some (some (.ref p)) → False := fun {p d} a b {i d'} h1 h2 => by
      cases a
      cases b
      obtain ⟨_, z, _⟩ := W2.owner (i := 0) rfl rfl
      obtain ⟨_, _, o, z', _⟩ := W.owner h1 h2
      rw [z] at z'
      cases z'
    intro i j p d d' h1 h2 h3 h4
    cases i with
    | zero =>
      cases j with
      | zero => rfl
      | succ j => exact (newer h1 h2 h3 h4).elim
    | succ i =>
      cases j with
      | zero => exact (newer h3 h4 h1 h2).elim
      | succ j => exact congrArg Nat.succ (W.nd i j p d d' h1 h2 h3 h4)
end

theorem WfO.making {K : PySem.W.Frag} {H1 : Hp} {O : List Addr} {G : List Sl} {S : List (Option V)} {C y dx : Addr} (W : Wf K H1 O G S H1) (ny : H1 y = none) (ndx : H1 dx = none) (ne : dx ≠ y) :
    Wf K H1 O (.ow (.obj C [] []) :: G) (some (.ref y) :: S) (upd (upd H1 dx (.own y)) y (.ins C dx [])) := by
  obtain ⟨O', W⟩ := W
  exact ⟨_, W.pushOw (Ex.tr (Ex.new ndx) (Ex.new ((upd_ne (Ne.symm ne)).trans ny))) ny upd_same ⟨rfl, rfl, rfl⟩⟩
section
variable {X : Cx} {H0 : Hp} {Oc : List Addr} {Γ : List Sl} {e a b c o : Expr} {es : List Expr} {s s0 s1 s2 : Sl} {ss : List Sl} {d d1 d2 : D} {ds ds1 ds2 : List D} {i j : Int} {pos p2 p apos : Pos} {x m : Str} {k : Nat} {ps : List Str} {P : Pm} {C : Addr} {ns : List Str}
theorem passLN {X : Cx} : Passes (L2N.CX X.prog X.w) X E0 := fun _ _ _ _ _ _ _ c => by
  obtain ⟨_, _, _, _, _, _, _, _, _, _, _, _, z⟩ := c
  exact z.elim
/-- the same, the argument list pushed below what stands -/
theorem ev_call (F : FnG X.prog X.w X.K X.mg X.base x k ps P) (hr : Room k X.A) (ha : Ea X H0 Oc Γ (e :: es) ss) (hp : P (ss.map Sl.arg) (.ret s)) (hs : s.res = true := by rfl) (hg : Gl X x := by rfl) (hdb : (x == ("__debug__" : Str)) = false := by decide)
    (he : starEach (e :: es) X.env = (false, eval e X.env) :: starEach es X.env := by rfl) (hpl : (backTo pos (starEach es X.env)).any (·.1) = false := by rfl) : Ev X H0 Oc Γ (.Call (.Name x p) (e :: es) [] pos) s := fun Δ τ σ H Q hl W q => by
  obtain ⟨f, fd, F, hm, hk, hb⟩ := F.ex
  refine wpE.of (pe_call (E := E0) F hr hg hm hk hb .nil passLN pa_wp hdb he hpl) ?_
  refine ha Δ τ σ H _ hl W fun vs O H1 W1 ok => ?_
  rw [List.append_nil]
  exact ⟨O, _, _, hp, W1.callee ok, fun v H' W2 => q v H' (W1.after W2 hs)⟩
theorem ev_meth {pl : Sem Bool} (c : Cls X.K C) (F : MtG X.prog X.w X.K X.mg X.base C m k ps P) (hr : Room k X.A) (ho : Ev X H0 Oc Γ o s0) (hd : s0.dat = some (.obj C ns ds)) (hn : m ∉ ns) (ha : Ea X H0 Oc Γ (e :: es) ss) (hp : P (s0.arg :: ss.map Sl.arg) (.ret s)) (hs : s.res = true := by rfl)
    (hst : starEach (e :: es) X.env = (false, eval e X.env) :: starEach es X.env := by rfl) (hpl : (backTo pos (starEach es X.env)).any (·.1) = false := by rfl)
    (ht : eval (.Call (.Attribute o m apos) (e :: es) [] pos) X.env = (do
      let ov ← eval o X.env
      standAt apos.atName
      let (f, first) ← holding [ov] (getMethod ov m pl)
      callWith pos f first (backTo pos (starEach (e :: es) X.env)) (backToKw pos (keywordEach [] X.env))) := by rfl) : Ev X H0 Oc Γ (.Call (.Attribute o m apos) (e :: es) [] pos) s := fun Δ τ σ H Q hl W q => by
  obtain ⟨f, fd, F, hm, hb⟩ := F.ex
  refine wpE.of (pe_meth (pl := pl) (E := E0) pe_wp c hm F hr hb .nil passLN pa_wp hst hpl ht) ?_
  refine ho Δ τ σ H _ hl W fun v H1 W1 => ?_
  obtain ⟨O1, W1'⟩ := id W1
  obtain ⟨r, dx, fs, rfl, h2, h3, h4⟩ := (W1'.head.b W1'.ex hd : RepB _ _ _ (.obj C ns ds) v)
  refine ⟨r, dx, fs, rfl, h2, ?_, ?_⟩
  · cases q : fs.lookup m with
    | none => rfl
    | some z =>
      refine absurd ?_ hn
      rw [← h3]
      exact List.mem_map_of_mem (f := (·.1)) (PySem.mem_of_lookup q)
  · refine ha (s0 :: Δ) (some (.ref r) :: τ) σ H1 _ (by simp [hl]) W1 fun vs O H2 W2 ok => ?_
    rw [List.append_nil]
    exact ⟨O, s0.arg :: ss.map Sl.arg, _, hp, W2.callee (ss := s0 :: ss) (vs := .ref r :: vs) ⟨_, _, rfl, W2.head, ok⟩, fun v H' W3 => q v H' (W2.pop.after W3 hs)⟩
theorem ev_meth0 {pl : Sem Bool} (c : Cls X.K C) (F : MtG X.prog X.w X.K X.mg X.base C m k ps P) (hr : Room k X.A) (ho : Ev X H0 Oc Γ o s0) (hd : s0.dat = some (.obj C ns ds)) (hn : m ∉ ns) (hp : P [s0.arg] (.ret s)) (hs : s.res = true := by rfl)
    (ht : eval (.Call (.Attribute o m apos) [] [] pos) X.env = (do
      let ov ← eval o X.env
      standAt apos.atName
      let (f, first) ← holding [ov] (getMethod ov m pl)
      callWith pos f first (backTo pos (starEach [] X.env)) (backToKw pos (keywordEach [] X.env))) := by rfl) : Ev X H0 Oc Γ (.Call (.Attribute o m apos) [] [] pos) s := fun Δ τ σ H Q hl W q => by
  obtain ⟨f, fd, F, hm, hb⟩ := F.ex
  refine wpE.of (pe_meth0 (pl := pl) (E := E0) pe_wp c hm F hr hb .nil passLN ht) ?_
  refine ho Δ τ σ H _ hl W fun v H1 ⟨O1, W1'⟩ => ?_
  obtain ⟨r, dx, fs, rfl, h2, h3, h4⟩ := (W1'.head.b W1'.ex hd : RepB _ _ _ (.obj C ns ds) v)
  refine ⟨r, dx, fs, rfl, h2, ?_, ?_⟩
  · cases q : fs.lookup m with
    | none => rfl
    | some z =>
      refine absurd ?_ hn
      rw [← h3]
      exact List.mem_map_of_mem (f := (·.1)) (PySem.mem_of_lookup q)
  · exact ⟨O1, [s0.arg], _, hp, W1'.callee (ss := [s0]) (vs := [.ref r]) ⟨_, _, rfl, W1'.head, rfl⟩, fun v H' W3 => q v H' (W1'.pop.after W3 hs)⟩
theorem ev_prop (c : Cls X.K C) (F : PrG X.prog X.w X.K X.mg X.base C m k ps P) (hr : Room (k + 1) X.A) (ho : Ev X H0 Oc Γ o s0) (hd : s0.dat = some (.obj C ns ds)) (hp : P [s0.arg] (.ret s)) (hs : s.res = true := by rfl)
    (hab : attributeBase o m X.env (eval o X.env) = eval o X.env := by rfl) : Ev X H0 Oc Γ (.Attribute o m pos) s := fun Δ τ σ H Q hl W q => by
  obtain ⟨p, f, fd, F, hm, hb⟩ := F.ex
  refine wpE.of (pe_prop (E := E0) pe_wp c hm F hr hb .nil (by exact passLN) hab) ?_
  refine ho Δ τ σ H _ hl W fun v H1 ⟨O1, W1'⟩ => ?_
  obtain ⟨r, dx, fs, rfl, h2, h3, h4⟩ := (W1'.head.b W1'.ex hd : RepB _ _ _ (.obj C ns ds) v)
  exact ⟨r, dx, fs, rfl, h2, O1, [s0.arg], _, hp, W1'.callee (ss := [s0]) (vs := [.ref r]) ⟨_, _, rfl, W1'.head, rfl⟩, fun v H' W3 => q v H' (W1'.pop.after W3 hs)⟩
/-- a field of an instance -/
theorem Reps.look {K : PySem.W.Frag} {H : Hp} : ∀ {fs : List (Str × V)} {ds : List D} {f : Str} {d : D}, Reps K H ds (fs.map (·.2)) → ((fs.map (·.1)).zip ds).lookup f = some d → ∃ v, fs.lookup f = some v ∧ Rep K H d v
  | [], [], _, _, _, h => by simp at h
  | [], _ :: _, _, _, _, h => by simp at h
  | _ :: _, [], _, _, _, h => by simp at h
  | (g, w) :: fs, d' :: ds, f, d, ⟨v, us, h1, h2, h3⟩, h => by
    have e1 := (List.cons.inj h1).1
    have e2 := (List.cons.inj h1).2
    simp only [List.map_cons, List.zip_cons_cons, List.lookup_cons] at h ⊢
    cases q : f == g with
    | true =>
      rw [q] at h
      have h' := Option.some.inj h
      subst h'
      exact ⟨w, by simp, by rw [show w = v from e1]; exact h2⟩
    | false =>
      rw [q] at h
      simp only [q]
      exact Reps.look (by rw [show fs.map (·.2) = us from e2]; exact h3) h
theorem ev_fld {f : Str} (c : Cls X.K C) (n : NoAttr X.K C f) (ha : Ev X H0 Oc Γ a (.bw (.obj C ns ds))) (hi : (ns.zip ds).lookup f = some d) (hab : attributeBase a f X.env (eval a X.env) = eval a X.env := by rfl) : Ev X H0 Oc Γ (.Attribute a f pos) (.va d) := fun Δ τ σ H Q hl W q =>
  wpE.of (pe_fld pe_wp hab) (ha Δ τ σ H _ hl W fun v H' ⟨O, W'⟩ => by
    obtain ⟨u, g1, r, dx, fs, rfl, h2, h3, h4⟩ := W'.head
    cases g1
    subst h3
    obtain ⟨z, hz, rz⟩ := h4.look hi
    exact ⟨r, C, dx, fs, z, rfl, h2, c, n, hz, q z H' ⟨O, W'.pop.push ⟨z, rfl, rz⟩ fun _ z => nomatch z⟩⟩)
/-- C(e, ..) -/
theorem ev_make (F : ClG X.prog X.w X.K X.mg X.base x C k ps P) (hr : Room (k + 1) X.A) (ha : Ea X H0 Oc Γ (e :: es) ss) (hp : P (ss.map Sl.arg) (.ret (.ow d))) (hg : Gl X x := by rfl) (hdb : (x == ("__debug__" : Str)) = false := by decide)
    (he : starEach (e :: es) X.env = (false, eval e X.env) :: starEach es X.env := by rfl) (hpl : (backTo pos (starEach es X.env)).any (·.1) = false := by rfl) : Ev X H0 Oc Γ (.Call (.Name x p) (e :: es) [] pos) (.ow d) := fun Δ τ σ H Q hl W q => by
  obtain ⟨f, fd, F, hM, hm, hb⟩ := F.ex
  refine wpE.of (pe_make (E := E0) hM F hr hg hm hb .nil passLN pa_wp hdb he hpl) ?_
  refine ha Δ τ σ H _ hl W fun vs O H1 W1 ok => ?_
  intro y dx ny ndx ne
  rw [List.append_nil]
  exact ⟨H1, O, _, _, _, _, hp, rfl, WfO.making (W1.callee ok) ny ndx ne, fun H' W2 => ⟨rfl, q _ H' (W1.after W2 rfl)⟩⟩
/-! ### what leaves an expression: an exception -/
def Exx (X : Cx) (W : WX) (H0 : Hp) (Oc : List Addr) (Γ : List Sl) (e : Expr) (C : Addr) (ns : List Str) (ds : List D) : Prop := ∀ (Δ : List Sl) (τ : List (Option V)) (σ : L2.St) (H : Hp) (Q : VK), τ.length = Δ.length → Wf X.K H0 Oc (Δ ++ Γ) (τ ++ σ) H →
  (∀ d H', Wf X.K H0 Oc (.va (.xd ns ds) :: (Δ ++ Γ)) (some (.ref d) :: (τ ++ σ)) H' → W (.ref C) (some d) σ H') → wpE X e σ H Q
theorem Wf.only {K : PySem.W.Frag} {G : List Sl} {S : List (Option V)} {H : Hp} {y : Option V} (W : Wf K H0 Oc (s :: G) (y :: S) H) : Wf K H0 Oc [s] [y] H := by
  obtain ⟨O, W⟩ := W
  refine ⟨O, W.sub, W.new, W.old, W.live, W.ex, rfl, fun i s' x h1 h2 => ?_, ?_⟩
  · cases i with
    | zero => exact W.ok 0 s' x h1 h2
    | succ i => simp at h1
  · intro i j p d d' h1 h2 h3 h4
    cases i with
    | zero =>
      cases j with
      | zero => rfl
      | succ j => simp at h3
    | succ i => simp at h1
theorem exx_call {W : WX} {C : Addr} {ns : List Str} {ds : List D} (tk : L2N.Takes X W) (F : FnG X.prog X.w X.K X.mg X.base x k ps P) (hr : Room k X.A) (ha : Ea X H0 Oc Γ (e :: es) ss) {Γe : Option (List Sl)} (hp : P (ss.map Sl.arg) (.exc C ns ds Γe)) (hg : Gl X x := by rfl) (hdb : (x == ("__debug__" : Str)) = false := by decide)
    (he : starEach (e :: es) X.env = (false, eval e X.env) :: starEach es X.env := by rfl) (hpl : (backTo pos (starEach es X.env)).any (·.1) = false := by rfl) : Exx X W H0 Oc Γ (.Call (.Name x p) (e :: es) [] pos) C ns ds := fun Δ τ σ H Q hl W' q => by
  obtain ⟨f, fd, F, hm, hk, hb⟩ := F.ex
  refine wpE.of (pe_callS (E := WE W) F hr hg hm hk hb (fun σ => L2N.passAt tk σ) pa_wp hdb he hpl) ?_
  refine ha Δ τ σ H _ hl W' fun vs O H1 W1 ok => ?_
  exact ⟨O, _, _, hp, W1.callee ok, fun d H' W2 => q d H' (W1.after W2 rfl)⟩
end
end Y

namespace Y
open PySem L2

/-! ## statements -/
def stab (G : List Sl) : Bool := G.all fun s => match s with | .bw _ => false | _ => true
def xWf (K : PySem.W.Frag) (H0 : Hp) (Oc : List Addr) (Δ : List Sl) (τ : List (Option V)) (ns : List Str) (ds : List D) (d : Addr) (σ : L2.St) (H : Hp) : Option (List Sl) → Prop
  | none => Wf K H0 Oc [.va (.xd ns ds)] [some (.ref d)] H
  | some Γ => Wf K H0 Oc (.va (.xd ns ds) :: (Δ ++ Γ)) (some (.ref d) :: (τ ++ σ)) H
section
variable (X : Cx) (W : WX) (H0 : Hp) (Oc : List Addr)
def Sat (Δ : List Sl) (τ : List (Option V)) (D : Ends) : Out → Prop
  | .nx Γ => ∀ σ H, Wf X.K H0 Oc (Δ ++ Γ) (τ ++ σ) H → D.nx σ H
  | .brk Γ => ∀ σ H, Wf X.K H0 Oc (Δ ++ Γ) (τ ++ σ) H → D.bk σ H
  | .cnt Γ => ∀ σ H, Wf X.K H0 Oc (Δ ++ Γ) (τ ++ σ) H → D.ct σ H
  | .ret s => ∀ v H, Wf X.K H0 Oc [s] [some v] H → D.rt v H
  | .exc C ns ds Γe => ∀ d σ H, xWf X.K H0 Oc Δ τ ns ds d σ H Γe → W (.ref C) (some d) σ H
def Sds (Γ : List Sl) (st : List Stmt) (o : Out) : Prop := ∀ (Δ : List Sl) (τ : List (Option V)) (σ : L2.St) (H : Hp) (D : Ends), τ.length = Δ.length → stab Δ = true → Wf X.K H0 Oc (Δ ++ Γ) (τ ++ σ) H → Sat X W H0 Oc Δ τ D o → wpSs X st D σ H
/-- a value is assigned to a target -/
def wpG (X : Cx) (tg : Expr) : TG := fun v σ H Q => ∀ (pins : List (Addr × Obj)) (s : Shared) (u : Value), Inv X pins σ H s → RelV v u → wpAny (model X.prog X.w) X.A (assign tg X.env u) (fun _ s' => ∃ σ' H', Inv X pins σ' H' s' ∧ Q σ' H') X.xe s
def Tg (tg : Expr) (Γ : List Sl) (s : Sl) (Γ' : List Sl) : Prop := ∀ (Δ : List Sl) (τ : List (Option V)) (σ : L2.St) (H : Hp) (v : V) (Q : L2.St → Hp → Prop), τ.length = Δ.length → stab Δ = true → Wf X.K H0 Oc (s :: (Δ ++ Γ)) (some v :: (τ ++ σ)) H →
  (∀ σ' H', Wf X.K H0 Oc (Δ ++ Γ') (τ ++ σ') H' → Q σ' H') → wpG X tg v σ H Q
end
theorem pg_wp {X : Cx} {tg : Expr} : PG X tg (wpG X tg) := ⟨fun pins s σ H v u Q I r h => h pins s u I r⟩
theorem wpG.of {X : Cx} {tg : Expr} {g : TG} {v : V} {σ : L2.St} {H : Hp} {Q : L2.St → Hp → Prop} (h : PG X tg g) (q : g v σ H Q) : wpG X tg v σ H Q := fun pins s u I r => h.run pins s σ H v u Q I r q
def Out.exit : Out → Bool
  | .nx _ => false
  | _ => true
/-- less is known -/
inductive Sub : List Sl → List Sl → Prop where
  | nil : Sub [] []
  | no {s : Sl} {G G' : List Sl} : Sub G G' → Sub (s :: G) (.no :: G')
  | eq {s : Sl} {G G' : List Sl} : Sub G G' → Sub (s :: G) (s :: G')
theorem Sub.refl : ∀ {G : List Sl}, Sub G G
  | [] => .nil
  | _ :: _ => .eq Sub.refl
theorem Sub.len : ∀ {G G' : List Sl}, Sub G G' → G.length = G'.length
  | _, _, .nil => rfl
  | _, _, .no h => congrArg Nat.succ h.len
  | _, _, .eq h => congrArg Nat.succ h.len
theorem Sub.at : ∀ {G G' : List Sl} {i : Nat} {s : Sl}, Sub G G' → G'[i]? = some s → s = .no ∨ G[i]? = some s
  | _, _, _, _, .nil, h => by simp at h
  | _, _, 0, _, .no _, h => .inl (Option.some.inj h).symm
  | _, _, 0, _, .eq _, h => .inr h
  | _, _, i + 1, _, .no z, h => Sub.at (i := i) z h
  | _, _, i + 1, _, .eq z, h => Sub.at (i := i) z h
theorem Sub.app : ∀ {Δ G G' : List Sl}, Sub G G' → Sub (Δ ++ G) (Δ ++ G')
  | [], _, _, h => h
  | _ :: _, _, _, h => .eq (Sub.app h)
section
variable {K : PySem.W.Frag} {H0 H : Hp} {O Oc : List Addr} {G G' Δ Γ Γ' : List Sl} {S : List (Option V)} {s : Sl}
theorem Wf.sub (W : Wf K H0 Oc G S H) (h : Sub G G') : Wf K H0 Oc G' S H := by
  obtain ⟨O, W⟩ := W
  refine ⟨O, W.sub, W.new, W.old, W.live, W.ex, W.len.trans h.len, fun i s x h1 h2 => ?_, fun i j p d d' h1 h2 h3 h4 => ?_⟩
  · rcases h.at h1 with e | e
    · rw [e]; trivial
    · exact W.ok i s x e h2
  · rcases h.at h1 with e | e
    · exact nomatch e
    · rcases h.at h3 with e' | e'
      · exact nomatch e'
      · exact W.nd i j p d d' e h2 e' h4
/-- a name is bound to the value on top -/
theorem WfO.set {v : V} {n : Nat} {τ : List (Option V)} {σ : L2.St} (hl : τ.length = Δ.length) (W : WfO K H0 Oc O (s :: (Δ ++ Γ)) (some v :: (τ ++ σ)) H) : WfO K H0 Oc O (Δ ++ Γ.set n s) (τ ++ σ.set n (some v)) H := by
  have hlen : σ.length = Γ.length := by
    have := W.len
    simp only [List.length_cons, List.length_append] at this
    omega
  have old : ∀ i, i ≠ Δ.length + n → (Δ ++ Γ.set n s)[i]? = (Δ ++ Γ)[i]? ∧ (τ ++ σ.set n (some v))[i]? = (τ ++ σ)[i]? := fun i hi => by
    by_cases h : i < Δ.length
    · rw [List.getElem?_append_left h, List.getElem?_append_left h, List.getElem?_append_left (by omega), List.getElem?_append_left (by omega)]
      exact ⟨rfl, rfl⟩
    · rw [List.getElem?_append_right (by omega), List.getElem?_append_right (by omega), List.getElem?_append_right (by omega), List.getElem?_append_right (by omega), List.getElem?_set_ne (by omega), List.getElem?_set_ne (by omega)]
      exact ⟨rfl, rfl⟩
  have new : ∀ i s' x, i = Δ.length + n → (Δ ++ Γ.set n s)[i]? = some s' → (τ ++ σ.set n (some v))[i]? = some x → s' = s ∧ x = some v := fun i s' x hi h1 h2 => by
    subst hi
    rw [List.getElem?_append_right (by omega)] at h1
    rw [List.getElem?_append_right (by omega), hl] at h2
    have e : Δ.length + n - Δ.length = n := by omega
    rw [e] at h1 h2
    have hn : n < Γ.length := by
      have := (List.getElem?_eq_some_iff.mp h1).1
      simpa using this
    rw [List.getElem?_set_self hn] at h1
    rw [List.getElem?_set_self (by omega)] at h2
    exact ⟨(Option.some.inj h1).symm, (Option.some.inj h2).symm⟩
  refine ⟨W.sub, W.new, W.old, W.live, W.ex, by simp [hl, hlen], fun i s' x h1 h2 => ?_, fun i j p d d' h1 h2 h3 h4 => ?_⟩
  · by_cases hi : i = Δ.length + n
    · obtain ⟨e1, e2⟩ := new i s' x hi h1 h2
      rw [e1, e2]
      exact W.head
    · obtain ⟨e1, e2⟩ := old i hi
      exact W.ok (i + 1) s' x (e1 ▸ h1) (e2 ▸ h2)
  · by_cases hi : i = Δ.length + n
    · obtain ⟨e1, e2⟩ := new i _ _ hi h1 h2
      by_cases hj : j = Δ.length + n
      · omega
      · obtain ⟨f1, f2⟩ := old j hj
        have := W.nd 0 (j + 1) p d d' (by rw [e1]; rfl) (by rw [e2]; rfl) (f1 ▸ h3) (f2 ▸ h4)
        omega
    · obtain ⟨e1, e2⟩ := old i hi
      by_cases hj : j = Δ.length + n
      · obtain ⟨f1, f2⟩ := new j _ _ hj h3 h4
        have := W.nd (i + 1) 0 p d d' (e1 ▸ h1) (e2 ▸ h2) (by rw [f1]; rfl) (by rw [f2]; rfl)
        omega
      · obtain ⟨f1, f2⟩ := old j hj
        exact Nat.succ.inj (W.nd (i + 1) (j + 1) p d d' (e1 ▸ h1) (e2 ▸ h2) (f1 ▸ h3) (f2 ▸ h4))
/-- an own object is changed -/
theorem WfO.mut {i : Nat} {p : Addr} {d d' : D} {o' : HO} (W : WfO K H0 Oc O G S H) (hb : stab G = true) (h1 : G[i]? = some (.ow d)) (h2 : S[i]? = some (some (.ref p))) (ho : RepH K (cut H O) d' p o') : WfO K H0 Oc O (G.set i (.ow d')) S (upd H p o') := by
  obtain ⟨hO, h0, o, hp, hr⟩ := W.owner h1 h2
  have hi : i < G.length := (List.getElem?_eq_some_iff.mp h1).1
  refine ⟨W.sub, W.new, W.old, fun a z q => ?_, fun a u z => ?_, by simpa using W.len, fun j s x h3 h4 => ?_, fun j k q d1 d2 h3 h4 h5 h6 => ?_⟩
  · by_cases e : a = p
    · rw [e, upd_same] at q; cases q
    · rw [upd_ne e] at q; exact W.live a z q
  · rw [upd_ne (ne_of_none z h0)]
    exact W.ex a u z
  · by_cases e : j = i
    · subst e
      rw [List.getElem?_set_self hi] at h3
      cases h3
      rw [h2] at h4
      cases h4
      exact ⟨p, o', rfl, hO, h0, upd_same, by rw [cut_upd hO]; exact ho⟩
    · rw [List.getElem?_set_ne (Ne.symm e)] at h3
      have ok := W.ok j s x h3 h4
      cases s with
      | no => trivial
      | va d => obtain ⟨v, g1, g2⟩ := ok; exact ⟨v, g1, by rw [cut_upd hO]; exact g2⟩
      | br d => obtain ⟨v, g1, g2⟩ := ok; exact ⟨v, g1, by rw [cut_upd hO]; exact g2⟩
      | bw d =>
        have := List.all_eq_true.mp hb _ (List.mem_of_getElem? h3)
        exact absurd this Bool.false_ne_true
      | ow d1 =>
        obtain ⟨q, o1, g1, g2, g3, g4, g5⟩ := ok
        subst g1
        have hne : q ≠ p := fun z => by
          subst z
          exact e (W.nd j i q d1 d h3 h4 h1 h2)
        exact ⟨q, o1, rfl, g2, g3, (upd_ne hne).trans g4, by rw [cut_upd hO]; exact g5⟩
  · have key : ∀ {j : Nat} {d1 : D}, (G.set i (.ow d'))[j]? = some (.ow d1) → ∃ d2, G[j]? = some (.ow d2) := fun {j d1} h => by
      by_cases e : j = i
      · exact ⟨d, by rw [e]; exact h1⟩
      · rw [List.getElem?_set_ne (Ne.symm e)] at h
        exact ⟨d1, h⟩
    obtain ⟨e1, g1⟩ := key h3
    obtain ⟨e2, g2⟩ := key h5
    exact W.nd j k q e1 e2 g1 h4 g2 h6
theorem stab_app : stab (Δ ++ Γ) = (stab Δ && stab Γ) := by unfold stab; rw [List.all_append]
theorem stab_cons : stab (s :: Γ) = (stab [s] && stab Γ) := stab_app (Δ := [s])
/-- .. one that a name holds -/
theorem WfO.mutN {n : Nat} {p : Addr} {d d' : D} {o' : HO} {τ : List (Option V)} {σ : L2.St} (hl : τ.length = Δ.length) (W : WfO K H0 Oc O (Δ ++ Γ) (τ ++ σ) H) (hΔ : stab Δ = true) (hΓ : stab Γ = true) (h1 : Γ[n]? = some (.ow d)) (h2 : σ[n]? = some (some (.ref p))) (ho : RepH K (cut H O) d' p o') :
    WfO K H0 Oc O (Δ ++ Γ.set n (.ow d')) (τ ++ σ) (upd H p o') := by
  have e1 : (Δ ++ Γ)[Δ.length + n]? = some (.ow d) := by
    rw [List.getElem?_append_right (by omega)]
    simpa using h1
  have e2 : (τ ++ σ)[Δ.length + n]? = some (some (.ref p)) := by
    rw [List.getElem?_append_right (by omega)]
    have : Δ.length + n - τ.length = n := by omega
    rw [this]
    exact h2
  have := W.mut (by rw [stab_app, hΔ, hΓ]; rfl) e1 e2 ho
  rw [List.set_append_right _ _ (by omega)] at this
  simpa using this
end
section
variable {X : Cx} {W : WX} {H0 : Hp} {Oc : List Addr} {Γ Γ1 Γ' : List Sl} {e a b c o : Expr} {es : List Expr} {rest body els : List Stmt} {s s0 s1 s2 : Sl} {ss : List Sl} {d d1 d2 : D} {ds ds1 ds2 : List D} {i j : Int} {pos p2 p apos : Pos} {x m : Str} {out o1 : Out} {n : Nat} {q : Bool}
theorem sds_nil : Sds X W H0 Oc Γ [] (.nx Γ) := fun Δ τ σ H D hl hs w k => wpSs.of pss_nil (k σ H w)
theorem sds_sub (h : Sds X W H0 Oc Γ1 rest out) (hs : Sub Γ Γ1) : Sds X W H0 Oc Γ rest out := fun Δ τ σ H D hl st w k => h Δ τ σ H D hl st (w.sub hs.app) k
/-- an own object that nobody changes any more -/
theorem sds_freeze (n : Nat) (h : Γ[n]? = some (.ow d)) (k : Sds X W H0 Oc (Γ.set n (.va d)) rest out) : Sds X W H0 Oc Γ rest out := fun Δ τ σ H D hl st w kk => by
  refine k Δ τ σ H D hl st ?_ kk
  obtain ⟨O, w⟩ := w
  obtain ⟨y, hy, p, o, rfl, h2, h3, h4, h5⟩ := slot_of hl w h
  have hn : n < Γ.length := (List.getElem?_eq_some_iff.mp h).1
  have e1 : (Δ ++ Γ)[Δ.length + n]? = some (.ow d) := by
    rw [List.getElem?_append_right (by omega)]
    simpa using h
  have e2 : (τ ++ σ)[Δ.length + n]? = some (some (.ref p)) := by
    rw [List.getElem?_append_right (by omega)]
    have : Δ.length + n - τ.length = n := by omega
    rw [this]
    exact hy
  have sub : ∀ a ∈ O.filter (· ≠ p), a ∈ O := fun a z => (List.mem_filter.mp z).1
  have npc : p ∉ Oc := fun z => w.old p z h3
  have key : ∀ j s', (Δ ++ Γ.set n (.va d))[j]? = some s' → (j = Δ.length + n ∧ s' = .va d) ∨ (j ≠ Δ.length + n ∧ (Δ ++ Γ)[j]? = some s') := fun j s' g => by
    have g' : ((Δ ++ Γ).set (Δ.length + n) (.va d))[j]? = some s' := by
      rw [List.set_append_right _ _ (by omega)]
      simpa using g
    by_cases ej : j = Δ.length + n
    · subst ej
      rw [List.getElem?_set_self (by simp; omega)] at g'
      exact .inl ⟨rfl, (Option.some.inj g').symm⟩
    · rw [List.getElem?_set_ne (Ne.symm ej)] at g'
      exact .inr ⟨ej, g'⟩
  refine ⟨O.filter (· ≠ p), fun a z => List.mem_filter.mpr ⟨w.sub a z, by simpa using fun q : a = p => npc (q ▸ z)⟩, fun a z => w.new a (sub a z), w.old, fun a z => w.live a (sub a z), w.ex, by simpa using w.len, fun j s' x g1 g2 => ?_, fun j k q d1 d2 g1 g2 g3 g4 => ?_⟩
  · rcases key j s' g1 with ⟨ej, es⟩ | ⟨ej, g1'⟩
    · subst ej
      subst es
      rw [e2] at g2
      cases g2
      refine ⟨.ref p, rfl, RepH.rep (RepH.mono (cut_sub sub) h5) ?_⟩
      rw [cut_out (by simp)]
      exact h4
    · refine SlOk.less (fun d' hs hx => ?_) (w.ok j s' x g1' g2)
      subst hs
      exact ej (w.nd j (Δ.length + n) p d' d g1' (hx ▸ g2) e1 e2)
  · rcases key j _ g1 with ⟨_, es⟩ | ⟨_, g1'⟩
    · exact nomatch es
    · rcases key k _ g3 with ⟨_, es⟩ | ⟨_, g3'⟩
      · exact nomatch es
      · exact w.nd j k q d1 d2 g1' g2 g3' g4
theorem tg_name {pos' : Pos} (n : Nat) (hN : X.N.Nodup) (hi : X.N[n]? = some x) (hx : Loc X.env.scope x) (hf : X.fn x = true ∨ X.env.scope.names.lookup x = some .local) : Tg X H0 Oc (.Name x pos') Γ s (Γ.set n s) :=
  fun Δ τ σ H v Q hl st ⟨O, w⟩ k => wpG.of (pg_name hN hi hx hf) (k _ H ⟨O, w.set hl⟩)
theorem sds_set {pos' : Pos} (n : Nat) (he : Ev X H0 Oc Γ e s) (hr : Sds X W H0 Oc (Γ.set n s) rest out) (hN : X.N.Nodup) (hi : X.N[n]? = some x) (hx : Loc X.env.scope x) (hs : swapsWith e (some (.Name x pos')) pos.line X.env = pure false) (hf : X.fn x = true ∨ X.env.scope.names.lookup x = some .local) :
    Sds X W H0 Oc Γ (.Assign [.Name x pos'] e pos :: rest) out := fun Δ τ σ H D hl st w k =>
  wpSs.of (pss_cons (ps_set hN hi hx pe_wp hs hf) pss_wp) (he Δ τ σ H _ hl w fun v H1 ⟨O, w1⟩ => hr Δ τ _ H1 D hl st ⟨O, w1.set hl⟩ k)
theorem sds_ret (he : Ev X H0 Oc Γ e s) : Sds X W H0 Oc Γ (.Return (some e) pos :: rest) (.ret s) := fun Δ τ σ H D hl st w k =>
  wpSs.of (pss_cons (ps_ret pe_wp) pss_wp) (he Δ τ σ H _ hl w fun v H1 w1 => k v H1 w1.only)
theorem sds_retN : Sds X W H0 Oc Γ (.Return none pos :: rest) (.ret (.va .non)) := fun Δ τ σ H D hl st ⟨O, w⟩ k =>
  wpSs.of (pss_cons ps_retN pss_wp) (k .non H (Wf.only ⟨O, w.flat rfl (show Rep X.K H .non .non from rfl)⟩))
theorem sds_pass (hr : Sds X W H0 Oc Γ rest out) : Sds X W H0 Oc Γ (.Pass pos :: rest) out := fun Δ τ σ H D hl st w k => wpSs.of (pss_cons ps_pass pss_wp) (hr Δ τ σ H D hl st w k)
theorem sds_brk : Sds X W H0 Oc Γ (.Break pos :: rest) (.brk Γ) := fun Δ τ σ H D hl st w k => wpSs.of (pss_cons ps_break pss_wp) (k σ H w)
theorem sds_cnt : Sds X W H0 Oc Γ (.Continue pos :: rest) (.cnt Γ) := fun Δ τ σ H D hl st w k => wpSs.of (pss_cons ps_continue pss_wp) (k σ H w)
theorem sds_expr (he : Ev X H0 Oc Γ e s) (hr : Sds X W H0 Oc Γ rest out) (hs : swapsWith e none pos.line X.env = pure false := by rfl) : Sds X W H0 Oc Γ (.Expr e pos :: rest) out := fun Δ τ σ H D hl st w k =>
  wpSs.of (pss_cons (ps_expr pe_wp hs) pss_wp) (he Δ τ σ H _ hl w fun v H1 w1 => hr Δ τ σ H1 D hl st w1.pop k)
/-- how a sub-block's ends reach the outer ones -/
theorem Sat.exit {Δ : List Sl} {τ : List (Option V)} {D : Ends} {N : L2.St → Hp → Prop} (hx : out.exit = true) (h : Sat X W H0 Oc Δ τ D out) : Sat X W H0 Oc Δ τ { D with nx := N } out := by
  cases out <;> first | exact absurd hx Bool.false_ne_true | exact h
/-- if c: something that leaves; rest -/
theorem sds_ifx (hc : Et X H0 Oc Γ c q) (h1 : q = true → Sds X W H0 Oc Γ body out ∧ out.exit = true) (h2 : q = false → Sds X W H0 Oc Γ rest out) : Sds X W H0 Oc Γ (.If c body [] pos :: rest) out := fun Δ τ σ H D hl st w k =>
  wpSs.of (pss_cons (ps_if pt_wp pss_wp pss_nil) pss_wp) (hc Δ τ σ H _ hl w fun H1 w1 => by
    cases q with
    | true => exact (h1 rfl).1 Δ τ σ H1 _ hl st w1 (k.exit (h1 rfl).2)
    | false => exact h2 rfl Δ τ σ H1 D hl st w1 k)
/-- if c: a else: b; both go on -/
theorem sds_ifn (Γ1 : List Sl) (hc : Et X H0 Oc Γ c q) (h1 : q = true → Sds X W H0 Oc Γ body (.nx Γ1)) (h2 : q = false → Sds X W H0 Oc Γ els (.nx Γ1)) (hr : Sds X W H0 Oc Γ1 rest out) : Sds X W H0 Oc Γ (.If c body els pos :: rest) out := fun Δ τ σ H D hl st w k =>
  wpSs.of (pss_cons (ps_if pt_wp pss_wp pss_wp) pss_wp) (hc Δ τ σ H _ hl w fun H1 w1 => by
    cases q with
    | true => exact h1 rfl Δ τ σ H1 _ hl st w1 fun σ' H' w' => hr Δ τ σ' H' D hl st w' k
    | false => exact h2 rfl Δ τ σ H1 _ hl st w1 fun σ' H' w' => hr Δ τ σ' H' D hl st w' k)
/-- the general form: each way tells its own end -/
theorem sds_if (hc : Et X H0 Oc Γ c q) (h1 : q = true → ∃ o1, Sds X W H0 Oc Γ body o1 ∧ (match o1 with | .nx Γ1 => Sds X W H0 Oc Γ1 rest out | o1 => o1 = out))
    (h2 : q = false → ∃ o1, Sds X W H0 Oc Γ els o1 ∧ (match o1 with | .nx Γ1 => Sds X W H0 Oc Γ1 rest out | o1 => o1 = out)) : Sds X W H0 Oc Γ (.If c body els pos :: rest) out := fun Δ τ σ H D hl st w k =>
  wpSs.of (pss_cons (ps_if pt_wp pss_wp pss_wp) pss_wp) (hc Δ τ σ H _ hl w fun H1 w1 => by
    have fin : ∀ {st' : List Stmt} {o1 : Out}, Sds X W H0 Oc Γ st' o1 → (match o1 with | .nx Γ1 => Sds X W H0 Oc Γ1 rest out | o1 => o1 = out) → wpSs X st' { D with nx := fun σ H => wpSs X rest D σ H } σ H1 := fun {st' o1} g1 g2 => by
      refine g1 Δ τ σ H1 _ hl st w1 ?_
      cases o1 with
      | nx Γ1 => exact fun σ' H' w' => g2 Δ τ σ' H' D hl st w' k
      | ret s => subst g2; exact k
      | brk s => subst g2; exact k
      | cnt s => subst g2; exact k
      | exc C ns ds Γe => subst g2; exact k
    cases q with
    | true =>
      obtain ⟨o1, g1, g2⟩ := h1 rfl
      exact fin g1 g2
    | false =>
      obtain ⟨o1, g1, g2⟩ := h2 rfl
      exact fin g1 g2)
/-! ### lists changed in place -/
theorem sds_app {cpos epos : Pos} (n : Nat) (h : Γ[n]? = some (.ow (.lst ds))) (hst : stab Γ = true) (he : Ev X H0 Oc Γ e (.va d)) (hn : ds.length ≤ 1000000) (hr : Sds X W H0 Oc (Γ.set n (.ow (.lst (ds ++ [d])))) rest out)
    (hN : X.N[n]? = some x) (hv : Vis X.env.scope x) (hd : (x == ("__debug__" : Str)) = false) (hcd : (x == ("__classdict__" : Str)) = false)
    (hbase : attributeBase (.Name x p) "append" X.env (eval (.Name x p) X.env) = eval (.Name x p) X.env := by rfl)
    (hfew : ((backTo cpos (starEach [e] X.env)).all (fun x => !x.1) && (backToKw cpos (keywordEach [] X.env)).all (fun x => x.1.isSome)
      && decide (([e] : List Expr).length + ([] : List Keyword).length + (if ([] : List Keyword).isEmpty then 0 else 1) < 30)) = true := by rfl)
    (hline : (apos.endLine == cpos.line) = true := by rfl) (hs : starEach [e] X.env = (false, eval e X.env) :: starEach [] X.env := by rfl) (hplain : (backTo cpos (starEach [] X.env)).any (·.1) = false := by rfl)
    (hsw : swapsWith (.Call (.Attribute (.Name x p) "append" apos) [e] [] cpos) none epos.line X.env = pure false := by rfl) :
    Sds X W H0 Oc Γ (.Expr (.Call (.Attribute (.Name x p) "append" apos) [e] [] cpos) epos :: rest) out := fun Δ τ σ H D hl st w k => by
  refine wpSs.of (pss_cons (ps_expr (pe_bm PySem.F.plainAttrs_list PySem.F.slot_list_append PySem.F.type_list_append mt_append (pe_var hN hv hd hcd) (pa_cons pe_wp pa_nil hs) hbase hfew hline hs hplain) hsw) pss_wp) ?_
  obtain ⟨O0, w0⟩ := id w
  obtain ⟨y, hy, pp, oo, rfl, g2, g3, g4, g5⟩ := slot_of hl w0 h
  refine ⟨.ref pp, hy, ?_, ?_⟩
  · cases oo <;> first
      | exact g5.elim
      | exact .inl ⟨rfl, _, .of g4⟩
  · refine he Δ τ σ H _ hl w fun v H1 ⟨O, w1⟩ => ?_
    obtain ⟨y', hy', q, u, e1, k2, k3, k4, k5⟩ := slot_of hl w1.pop h
    rw [hy] at hy'
    cases hy'
    cases e1
    obtain ⟨v', e2, rv⟩ := w1.head
    cases e2
    cases u <;> first | exact k5.elim | skip
    rename_i vs
    have k5' : Reps X.K (cut H1 O) ds vs := k5
    refine ⟨pp, vs, v, rfl, rfl, k4, ?_, ?_⟩
    · rw [k5'.len, sizeLine_eq]
      omega
    · exact hr Δ τ σ _ D hl st ⟨O, w1.pop.mutN hl st hst h hy (o' := .lst (vs ++ [v])) (d' := .lst (ds ++ [d])) (k5'.app (Reps.one rv))⟩ k
end
end Y

namespace Y
open PySem L2

/-! ## what is walked -/
structure ItOk (K : PySem.W.Frag) (H0 : Hp) (Oc : List Addr) (J : It) (Δh : List Sl) (τh : List (Option V)) (ds : List D) : Prop where
  len : τh.length = Δh.length
  st : stab Δh = true
  go : ∀ (i : Nat) (Δp G : List Sl) (τp S : List (Option V)) (H : Hp), τp.length = Δp.length → i < ds.length → Wf K H0 Oc (Δp ++ (Δh ++ G)) (τp ++ (τh ++ S)) H →
    J.go i H ∧ ∀ x H', J.yld i H x H' → ∃ d, ds[i]? = some d ∧ Wf K H0 Oc (.va d :: (Δp ++ (Δh ++ G))) (some x :: (τp ++ (τh ++ S))) H'
  stop : ∀ (i : Nat) (Δp G : List Sl) (τp S : List (Option V)) (H : Hp), τp.length = Δp.length → ds.length ≤ i → Wf K H0 Oc (Δp ++ (Δh ++ G)) (τp ++ (τh ++ S)) H → J.stop i H
theorem WfO.drop {K : PySem.W.Frag} {H0 : Hp} {O Oc : List Addr} {G : List Sl} {S : List (Option V)} {H : Hp} : ∀ {Δ : List Sl} {τ : List (Option V)}, τ.length = Δ.length → WfO K H0 Oc O (Δ ++ G) (τ ++ S) H → WfO K H0 Oc O G S H
  | [], [], _, w => w
  | [], _ :: _, h, _ => by simp at h
  | _ :: _, [], h, _ => by simp at h
  | _ :: Δ, _ :: τ, h, w => WfO.drop (Δ := Δ) (τ := τ) (by simpa using h) w.pop
def Ei (X : Cx) (H0 : Hp) (Oc : List Addr) (Γ : List Sl) (tg iter : Expr) (ds : List D) : Prop := ∃ wi : TI, PI X tg iter wi ∧ ∀ (Δ : List Sl) (τ : List (Option V)) (σ : L2.St) (H : Hp) (R : It → Hp → Prop), τ.length = Δ.length → Wf X.K H0 Oc (Δ ++ Γ) (τ ++ σ) H →
  (∀ J Δh τh H', (∀ H0' Oc', ItOk X.K H0' Oc' J Δh τh ds) → Δh.map Sl.arg = Δh → Wf X.K H0 Oc (Δh ++ (Δ ++ Γ)) (τh ++ (τ ++ σ)) H' → R J H') → wi σ H R
theorem Ei.as {X : Cx} {H0 : Hp} {Oc : List Addr} {Γ : List Sl} {tg iter : Expr} {ds ds' : List D} (h : Ei X H0 Oc Γ tg iter ds) (e : ds = ds') : Ei X H0 Oc Γ tg iter ds' := e ▸ h
section
variable {X : Cx} {W : WX} {H0 : Hp} {Oc : List Addr} {Γ Γ1 Γ' : List Sl} {e a b c o tg iter : Expr} {es : List Expr} {rest body els : List Stmt} {s s0 s1 s2 : Sl} {ss : List Sl} {d d1 d2 : D} {ds ds1 ds2 : List D} {i j : Int} {pos p2 p apos : Pos} {x m : Str} {out o1 : Out} {n : Nat} {q : Bool}
theorem Reps.lt_get {K : PySem.W.Frag} {H : Hp} {vs : List V} {i : Nat} (h : Reps K H ds vs) (hi : i < ds.length) : ∃ d v, ds[i]? = some d ∧ vs[i]? = some v ∧ Rep K H d v := by
  have e : ds[i]? = some ds[i] := List.getElem?_eq_getElem hi
  obtain ⟨v, h1, h2⟩ := h.get e
  exact ⟨_, v, e, h1, h2⟩
/-- a slot that stands by itself while a loop runs -/
def Sl.held : Sl → Option D
  | .va d => some d
  | .br d => some d
  | _ => none
theorem held_b {K : PySem.W.Frag} {O : List Addr} {H : Hp} {v : V} (e : Ex H0 H) (h : SlOk K H0 O H s (some v)) (hs : s.held = some d) : RepB K H (cut H O) d v := h.b e (by cases s <;> first | exact hs | cases hs)
theorem held_stab (hs : s.held = some d) : stab [s] = true := by cases s <;> first | rfl | cases hs
theorem held_arg (hs : s.held = some d) : [s].map Sl.arg = [s] := by cases s <;> first | rfl | cases hs
theorem it_lst {K : PySem.W.Frag} {l : Addr} (hs : s.held = some (.lst ds)) : ItOk K H0 Oc (Itl K l) [s] [some (.ref l)] ds := by
  refine ⟨rfl, held_stab hs, fun i Δp G τp S H hp hi ⟨O, w⟩ => ?_, fun i Δp G τp S H hp hi ⟨O, w⟩ => ?_⟩
  · obtain ⟨l', vs, e, g1, g2⟩ := held_b w.ex (w.drop hp).head hs
    cases e
    obtain ⟨d', v', e1, e2, rv⟩ := g2.lt_get hi
    refine ⟨⟨vs, v', .of g1, e2⟩, fun x H' y => ?_⟩
    obtain ⟨eH, y⟩ := y
    subst eH
    have e3 := y vs (.of g1)
    rw [e2] at e3
    cases e3
    exact ⟨d', e1, O, w.push ⟨_, rfl, rv⟩ fun _ z => nomatch z⟩
  · obtain ⟨l', vs, e, g1, g2⟩ := held_b w.ex (w.drop hp).head hs
    cases e
    exact ⟨vs, .of g1, by rw [g2.len]; exact hi⟩
theorem it_tup {K : PySem.W.Frag} {l : Addr} (hs : s.held = some (.tup ds)) : ItOk K H0 Oc (Itt K l) [s] [some (.ref l)] ds := by
  refine ⟨rfl, held_stab hs, fun i Δp G τp S H hp hi ⟨O, w⟩ => ?_, fun i Δp G τp S H hp hi ⟨O, w⟩ => ?_⟩
  · obtain ⟨l', vs, e, g1, g2⟩ := held_b w.ex (w.drop hp).head hs
    cases e
    obtain ⟨d', v', e1, e2, rv⟩ := g2.lt_get hi
    refine ⟨⟨vs, v', .of g1, e2⟩, fun x H' y => ?_⟩
    obtain ⟨eH, y⟩ := y
    subst eH
    have e3 := y vs (.of g1)
    rw [e2] at e3
    cases e3
    exact ⟨d', e1, O, w.push ⟨_, rfl, rv⟩ fun _ z => nomatch z⟩
  · obtain ⟨l', vs, e, g1, g2⟩ := held_b w.ex (w.drop hp).head hs
    cases e
    exact ⟨vs, .of g1, by rw [g2.len]; exact hi⟩
theorem ei_lst (he : Ev X H0 Oc Γ iter s) (hs : s.held = some (.lst ds)) : Ei X H0 Oc Γ tg iter ds := ⟨_, pi_list pe_wp, fun Δ τ σ H R hl w k => he Δ τ σ H _ hl w fun v H1 w1 => by
  obtain ⟨O, w1'⟩ := id w1
  obtain ⟨l, vs, rfl, h1, h2⟩ := held_b w1'.ex w1'.head hs
  exact ⟨l, rfl, ⟨vs, .of h1⟩, k _ [s] [some (.ref l)] H1 (fun _ _ => it_lst hs) (held_arg hs) w1⟩⟩
theorem ei_tup (he : Ev X H0 Oc Γ iter s) (hs : s.held = some (.tup ds)) : Ei X H0 Oc Γ tg iter ds := ⟨_, pi_tup pe_wp, fun Δ τ σ H R hl w k => he Δ τ σ H _ hl w fun v H1 w1 => by
  obtain ⟨O, w1'⟩ := id w1
  obtain ⟨l, vs, rfl, h1, h2⟩ := held_b w1'.ex w1'.head hs
  exact ⟨l, rfl, ⟨vs, .of h1⟩, k _ [s] [some (.ref l)] H1 (fun _ _ => it_tup hs) (held_arg hs) w1⟩⟩
/-- range(..) -/
def rngD (lo : Int) (n : Nat) : List D := (List.range n).map fun (i : Nat) => .int (lo + (i : Int))
theorem rngD_get {lo : Int} {n i : Nat} (h : i < n) : (rngD lo n)[i]? = some (.int (lo + (i : Int))) := by
  unfold rngD
  rw [List.getElem?_map, List.getElem?_range h]
  rfl
theorem rngD_len {lo : Int} {n : Nat} : (rngD lo n).length = n := by unfold rngD; simp
theorem it_rng {K : PySem.W.Frag} {lo : Int} {n : Nat} : ItOk K H0 Oc (Itr lo n) [] [] (rngD lo n) := by
  refine ⟨rfl, rfl, fun i Δp G τp S H hp hi ⟨O, w⟩ => ?_, fun i Δp G τp S H hp hi w => ?_⟩
  · rw [rngD_len] at hi
    refine ⟨hi, fun x H' y => ?_⟩
    obtain ⟨eH, ex⟩ := y
    subst eH
    exact ⟨_, rngD_get hi, O, w.flat rfl (by rw [ex]; exact (show Rep K H' (.int (lo + (i : Int))) (.int (lo + (i : Int))) from rfl))⟩
  · rw [rngD_len] at hi
    exact hi
theorem ei_rng1 {j : Int} (ha : Ev X H0 Oc Γ a (.va (.int j))) (h1 : -1000000000 ≤ j) (h2 : j ≤ 1000000000) (hm : X.mg "range" = none) (hg : Gl X "range" := by rfl) (hs : starEach [a] X.env = [(false, eval a X.env)] := by rfl) (hs' : starEach [a] X.env = (false, eval a X.env) :: starEach [] X.env := by rfl) :
    Ei X H0 Oc Γ tg (.Call (.Name "range" p) [a] [] pos) (rngD 0 j.toNat) := ⟨_, pi_range1 hg hm (pa_cons pe_wp pa_nil hs') hs, fun Δ τ σ H R hl w k => ha Δ τ σ H _ hl w fun v H1 ⟨O, w1⟩ => by
  obtain ⟨u, e, r⟩ := w1.head
  cases e
  exact ⟨j, by rw [show v = _ from r], by omega, by omega, k _ [] [] H1 (fun _ _ => it_rng) rfl ⟨O, w1.pop⟩⟩⟩
theorem ei_rng2 {i j : Int} (ha : Ev X H0 Oc Γ a (.va (.int i))) (hb : Ev X H0 Oc Γ b (.va (.int j))) (h1 : -1000000000 ≤ i ∧ i ≤ 1000000000 ∧ -1000000000 ≤ j ∧ j ≤ 1000000000) (hm : X.mg "range" = none) (hg : Gl X "range" := by rfl)
    (hs1 : starEach [a, b] X.env = (false, eval a X.env) :: starEach [b] X.env := by rfl) (hs2 : starEach [b] X.env = (false, eval b X.env) :: starEach [] X.env := by rfl) :
    Ei X H0 Oc Γ tg (.Call (.Name "range" p) [a, b] [] pos) (rngD i (j - i).toNat) := ⟨_, pi_range2 hg hm (pa_cons pe_wp (pa_cons pe_wp pa_nil hs2) hs1) (hs1.trans (by rw [hs2] <;> rfl)) (hs2.trans rfl), fun Δ τ σ H R hl w k => ha Δ τ σ H _ hl w fun v H1 w1 => hb (_ :: Δ) (_ :: τ) σ H1 _ (by simp [hl]) w1 fun v2 H2 ⟨O, w2⟩ => by
  obtain ⟨u, e, r⟩ := w2.head
  obtain ⟨u', e', r'⟩ := w2.pop.head
  cases e
  cases e'
  exact ⟨i, j, by rw [show v2 = _ from r, show v = _ from r'], ⟨by omega, by omega, by omega, by omega⟩, k _ [] [] H2 (fun _ _ => it_rng) rfl ⟨O, w2.pop.pop⟩⟩⟩
/-- enumerate(list) -/
def enumD (ds : List D) : List D := (List.range ds.length).zipWith (fun (i : Nat) d => .tup [.int (i : Int), d]) ds
theorem enumD_get {i : Nat} {d : D} (h : ds[i]? = some d) : (enumD ds)[i]? = some (.tup [.int (i : Int), d]) := by
  unfold enumD
  have hi := (List.getElem?_eq_some_iff.mp h).1
  rw [List.getElem?_zipWith, List.getElem?_range hi, h]
theorem enumD_len : (enumD ds).length = ds.length := by unfold enumD; simp
theorem it_enum {K : PySem.W.Frag} {l : Addr} (hs : s.held = some (.lst ds)) : ItOk K H0 Oc (Ite K l) [s] [some (.ref l)] (enumD ds) := by
  refine ⟨rfl, held_stab hs, fun i Δp G τp S H hp hi ⟨O, w⟩ => ?_, fun i Δp G τp S H hp hi ⟨O, w⟩ => ?_⟩
  · obtain ⟨l', vs, e, g1, g2⟩ := held_b w.ex (w.drop hp).head hs
    cases e
    rw [enumD_len] at hi
    obtain ⟨d', v', e1, e2, rv⟩ := g2.lt_get hi
    refine ⟨⟨vs, v', .of g1, e2⟩, fun x H' y => ?_⟩
    obtain ⟨T, z, ex, hT, eH, y⟩ := y
    subst eH
    subst ex
    have e3 := y vs (.of g1)
    rw [e2] at e3
    cases e3
    exact ⟨_, enumD_get e1, O, w.newTup hT (Reps.cons (show Rep K _ (.int (i : Int)) (.int (i : Int)) from rfl) (Reps.one rv))⟩
  · obtain ⟨l', vs, e, g1, g2⟩ := held_b w.ex (w.drop hp).head hs
    cases e
    rw [enumD_len] at hi
    exact ⟨vs, .of g1, by rw [g2.len]; exact hi⟩
theorem ei_enum {elts : List Expr} {kk : Nat} {tpos : Pos} (ha : Ev X H0 Oc Γ a s) (hs : s.held = some (.lst ds)) (hm : X.mg "enumerate" = none) (hg : Gl X "enumerate" := by rfl) (hst : starEach [a] X.env = [(false, eval a X.env)] := by rfl) (hst' : starEach [a] X.env = (false, eval a X.env) :: starEach [] X.env := by rfl) :
    Ei X H0 Oc Γ (.Tuple elts kk tpos) (.Call (.Name "enumerate" p) [a] [] pos) (enumD ds) := ⟨_, pi_enum hg hm (pa_cons pe_wp pa_nil hst') hst, fun Δ τ σ H R hl w k => ha Δ τ σ H _ hl w fun v H1 w1 => by
  obtain ⟨O, w1'⟩ := id w1
  obtain ⟨l, vs, rfl, h1, h2⟩ := held_b w1'.ex w1'.head hs
  exact ⟨l, vs, rfl, .of h1, k _ [s] [some (.ref l)] H1 (fun _ _ => it_enum hs) (held_arg hs) w1⟩⟩
/-! ## for -/
/-- what a turn's end asks -/
def TurnOk (X : Cx) (W : WX) (H0 : Hp) (Oc : List Addr) (rest : List Stmt) (out : Out) (Nx : List Sl → Prop) : Out → Prop
  | .nx Γ => Nx Γ
  | .cnt Γ => Nx Γ
  | .brk Γ => Sds X W H0 Oc Γ rest out
  | o => o = out
theorem app3 {α : Type} {a b c : List α} : a ++ (b ++ c) = (a ++ b) ++ c := (List.append_assoc a b c).symm
theorem Wf.drop {K : PySem.W.Frag} {G : List Sl} {S : List (Option V)} {H : Hp} : ∀ {Δ : List Sl} {τ : List (Option V)}, τ.length = Δ.length → Wf K H0 Oc (Δ ++ G) (τ ++ S) H → Wf K H0 Oc G S H
  | [], [], _, w => w
  | [], _ :: _, h, _ => by simp at h
  | _ :: _, [], h, _ => by simp at h
  | _ :: Δ, _ :: τ, h, w => Wf.drop (Δ := Δ) (τ := τ) (by simpa using h) w.pop
/-- what lies below the head is left out -/
theorem Wf.drop1 {K : PySem.W.Frag} {G : List Sl} {S : List (Option V)} {H : Hp} {y : Option V} {Δ : List Sl} {τ : List (Option V)} (hl : τ.length = Δ.length) (w : Wf K H0 Oc (s :: (Δ ++ G)) (y :: (τ ++ S)) H) : Wf K H0 Oc (s :: G) (y :: S) H := by
  obtain ⟨O, w⟩ := w
  have low : ∀ {i : Nat}, (s :: (Δ ++ G))[if i = 0 then 0 else i + Δ.length]? = (s :: G)[i]? ∧ (y :: (τ ++ S))[if i = 0 then 0 else i + Δ.length]? = (y :: S)[i]? := fun {i} => by
    cases i with
    | zero => exact ⟨rfl, rfl⟩
    | succ i =>
      rw [if_neg (Nat.succ_ne_zero i)]
      have e : i + 1 + Δ.length = (Δ.length + i) + 1 := by omega
      rw [e]
      refine ⟨?_, ?_⟩
      · show (Δ ++ G)[Δ.length + i]? = G[i]?
        rw [List.getElem?_append_right (by omega)]
        simp
      · show (τ ++ S)[Δ.length + i]? = S[i]?
        rw [← hl, List.getElem?_append_right (by omega)]
        simp
  refine ⟨O, w.sub, w.new, w.old, w.live, w.ex, ?_, fun i s' x h1 h2 => w.ok _ s' x (low.1.trans h1) (low.2.trans h2), fun i j p d d' h1 h2 h3 h4 => ?_⟩
  · have := w.len
    simp only [List.length_cons, List.length_append] at this ⊢
    omega
  · have := w.nd _ _ p d d' (low.1.trans h1) (low.2.trans h2) (low.1.trans h3) (low.2.trans h4)
    by_cases hi : i = 0
    · by_cases hj : j = 0
      · omega
      · rw [if_pos hi, if_neg hj] at this; omega
    · by_cases hj : j = 0
      · rw [if_neg hi, if_pos hj] at this; omega
      · rw [if_neg hi, if_neg hj] at this; omega
theorem sat_in {Δ Δh : List Sl} {τ τh : List (Option V)} {D : Ends} {N : L2.St → Hp → Prop} {o : Out} (hl : τh.length = Δh.length) (hx : (∃ s, o = .ret s) ∨ ∃ C ns ds Γe, o = .exc C ns ds Γe) (h : Sat X W H0 Oc Δ τ D o) (Nb : L2.St → Hp → Prop) :
    Sat X W H0 Oc (Δh ++ Δ) (τh ++ τ) { D with nx := N, ct := N, bk := Nb } o := by
  rcases hx with ⟨s, rfl⟩ | ⟨C, ns, ds, Γe, rfl⟩
  · exact h
  · intro d σ H hw
    refine h d σ H ?_
    cases Γe with
    | none => exact hw
    | some Γe =>
      have hw' : Wf X.K H0 Oc (.va (.xd ns ds) :: ((Δh ++ Δ) ++ Γe)) (some (.ref d) :: ((τh ++ τ) ++ σ)) H := hw
      rw [← app3, ← app3] at hw'
      exact hw'.drop1 hl
theorem sds_for (G : Nat → List Sl) (P : Nat → Prop) (hp : PassesOwn (model X.prog X.w) X.A X.env X.xe) (hc : X.calm = true) (hi : Ei X H0 Oc Γ tg iter ds) (h0 : Sub Γ (G 0)) (p0 : P 0)
    (hb : ∀ i d, ds[i]? = some d → P i → ∃ Γ1 ob, Tg X H0 Oc tg (G i) (.va d) Γ1 ∧ Sds X W H0 Oc Γ1 body ob ∧ TurnOk X W H0 Oc rest out (fun Γ2 => Sub Γ2 (G (i + 1)) ∧ P (i + 1)) ob)
    (hr : P ds.length → Sds X W H0 Oc (G ds.length) rest out)
    (hs : ∀ x, foldedSetIterable iter X.env x = pure x := by intro _; rfl) : Sds X W H0 Oc Γ (.For tg iter body [] pos :: rest) out := fun Δ τ σ H D hl st w k => by
  obtain ⟨wi, hpi, hwi⟩ := hi
  refine wpSs.of (pss_cons (ps_for hp hc hpi pg_wp pss_wp hs) pss_wp) ?_
  refine hwi Δ τ σ H _ hl w fun J Δh τh H1 ok harg w1 => ?_
  have ok := ok H0 Oc
  have hl2 : (τh ++ τ).length = (Δh ++ Δ).length := by rw [List.length_append, List.length_append, hl, ok.len]
  have st2 : stab (Δh ++ Δ) = true := by rw [stab_app, ok.st, st]; rfl
  refine ⟨fun i m σ H => m = ds.length - i ∧ i ≤ ds.length ∧ P i ∧ Wf X.K H0 Oc ((Δh ++ Δ) ++ G i) ((τh ++ τ) ++ σ) H, ⟨ds.length, by simp, Nat.zero_le _, p0, ?_⟩, ?_⟩
  · rw [app3, app3] at w1
    exact w1.sub h0.app
  rintro i m σ1 H2 ⟨rfl, hi, pi, w2⟩
  by_cases hlt : i < ds.length
  · have w2' := w2
    rw [← app3, ← app3] at w2'
    obtain ⟨g1, g2⟩ := ok.go i [] _ [] _ H2 rfl hlt w2'
    refine .inr ⟨g1, fun σ' H' => P (i + 1) ∧ Wf X.K H0 Oc ((Δh ++ Δ) ++ G (i + 1)) ((τh ++ τ) ++ σ') H', fun σ' H' ⟨q1, q2⟩ => ⟨ds.length - (i + 1), by omega, rfl, hlt, q1, q2⟩, fun x H' y => ?_⟩
    obtain ⟨d, hd, w3⟩ := g2 x H' y
    rw [List.nil_append, List.nil_append, app3, app3] at w3
    obtain ⟨Γ1, ob, t1, t2, t3⟩ := hb i d hd pi
    refine t1 (Δh ++ Δ) (τh ++ τ) σ1 H' x _ hl2 st2 w3 fun σ2 H3 w4 => ?_
    refine t2 (Δh ++ Δ) (τh ++ τ) σ2 H3 _ hl2 st2 w4 ?_
    cases ob with
    | nx Γ2 => exact fun σ' H' w' => ⟨t3.2, w'.sub t3.1.app⟩
    | cnt Γ2 => exact fun σ' H' w' => ⟨t3.2, w'.sub t3.1.app⟩
    | brk Γ2 =>
      refine fun σ' H' w' => ?_
      rw [← app3, ← app3] at w'
      exact t3 Δ τ σ' H' D hl st (w'.drop ok.len) k
    | ret s =>
      have e : Out.ret s = out := t3
      subst e
      exact k
    | exc C ns ds' Γe =>
      have e : Out.exc C ns ds' Γe = out := t3
      subst e
      exact sat_in (D := D) ok.len (.inr ⟨C, ns, ds', Γe, rfl⟩) k _
  · have e : i = ds.length := by omega
    subst e
    have w2' := w2
    rw [← app3, ← app3] at w2'
    exact .inl ⟨ok.stop _ [] _ [] _ H2 rfl (Nat.le_refl _) w2', hr pi Δ τ σ1 H2 D hl st (w2'.drop ok.len) k⟩
end
end Y

namespace Y
open PySem L2

/-! ## comprehensions: like a callee that reads what stands -/
def wipeG (Γ : List Sl) : List Nat → List Sl
  | [] => Γ
  | v :: vs => (wipeG Γ vs).set v .no
def Tgw (X : Cx) (H0 : Hp) (Oc : List Addr) (vs : List Nat) (tg : Expr) (Γ : List Sl) (s : Sl) (Γ' : List Sl) : Prop := ∀ (Δ : List Sl) (τ : List (Option V)) (σ : L2.St) (H : Hp) (v : V) (Q : L2.St → Hp → Prop), τ.length = Δ.length → Wf X.K H0 Oc (s :: (Δ ++ Γ)) (some v :: (τ ++ σ)) H →
  (∀ σ' H', wipe σ' vs = wipe σ vs → Wf X.K H0 Oc (Δ ++ Γ') (τ ++ σ') H' → Q σ' H') → wpG X tg v σ H Q
theorem wipe_get (σ : L2.St) : ∀ (vs : List Nat) (i : Nat), (wipe σ vs)[i]? = if i ∈ vs ∧ i < σ.length then some none else σ[i]?
  | [], i => by simp [wipe]
  | v :: vs, i => by
    unfold wipe
    rw [List.getElem?_set, wipe_get σ vs i, wipe_length]
    by_cases h : v = i
    · subst h
      by_cases hl : v < σ.length
      · simp [hl]
      · simp [hl]
    · rw [if_neg h]
      simp only [List.mem_cons, Ne.symm h, false_or]
theorem wipe_set {σ : L2.St} {vs : List Nat} {n : Nat} {x : Option V} (h : n ∈ vs) : wipe (σ.set n x) vs = wipe σ vs := by
  apply List.ext_getElem?
  intro i
  rw [wipe_get, wipe_get, List.length_set]
  by_cases hi : i ∈ vs ∧ i < σ.length
  · rw [if_pos hi, if_pos hi]
  · rw [if_neg hi, if_neg hi]
    by_cases e : n = i
    · subst e
      have : ¬ n < σ.length := fun z => hi ⟨h, z⟩
      rw [List.getElem?_eq_none (by simp; omega), List.getElem?_eq_none (by omega)]
    · rw [List.getElem?_set_ne e]
theorem wipe_wipe {σ : L2.St} {vs : List Nat} : wipe (wipe σ vs) vs = wipe σ vs := by
  apply List.ext_getElem?
  intro i
  rw [wipe_get, wipe_get, wipe_length]
  by_cases hi : i ∈ vs ∧ i < σ.length
  · rw [if_pos hi, if_pos hi]
  · rw [if_neg hi, if_neg hi]
section
variable {K : PySem.W.Frag} {H0 H : Hp} {O Oc : List Addr} {G G' Δ Γ Γ' : List Sl} {S : List (Option V)} {s : Sl}
theorem Wf.unset {n : Nat} {τ : List (Option V)} {σ : L2.St} (hl : τ.length = Δ.length) (w : Wf K H0 Oc (Δ ++ Γ) (τ ++ σ) H) : Wf K H0 Oc (Δ ++ Γ.set n .no) (τ ++ σ.set n none) H := by
  obtain ⟨O, w⟩ := w
  have hlen : σ.length = Γ.length := by
    have := w.len
    simp only [List.length_append] at this
    omega
  have key : ∀ i s', (Δ ++ Γ.set n .no)[i]? = some s' → s' = Sl.no ∨ ((Δ ++ Γ)[i]? = some s' ∧ (τ ++ σ.set n none)[i]? = (τ ++ σ)[i]?) := fun i s' h => by
    by_cases hi : i < Δ.length
    · rw [List.getElem?_append_left hi] at h
      refine .inr ⟨by rw [List.getElem?_append_left hi]; exact h, ?_⟩
      rw [List.getElem?_append_left (by omega), List.getElem?_append_left (by omega)]
    · rw [List.getElem?_append_right (by omega)] at h
      by_cases e : n = i - Δ.length
      · rw [List.getElem?_set, if_pos e] at h
        split at h
        · exact .inl (Option.some.inj h).symm
        · cases h
      · rw [List.getElem?_set_ne e] at h
        refine .inr ⟨by rw [List.getElem?_append_right (by omega)]; exact h, ?_⟩
        rw [List.getElem?_append_right (by omega), List.getElem?_append_right (by omega), List.getElem?_set_ne (by omega)]
  refine ⟨O, w.sub, w.new, w.old, w.live, w.ex, by simp [hl, hlen], fun i s' x h1 h2 => ?_, fun i j p d d' h1 h2 h3 h4 => ?_⟩
  · rcases key i s' h1 with e | ⟨e1, e2⟩
    · rw [e]; trivial
    · exact w.ok i s' x e1 (e2 ▸ h2)
  · rcases key i _ h1 with e | ⟨e1, e2⟩
    · exact nomatch e
    · rcases key j _ h3 with f | ⟨f1, f2⟩
      · exact nomatch f
      · exact w.nd i j p d d' e1 (e2 ▸ h2) f1 (f2 ▸ h4)
theorem Wf.wiped {τ : List (Option V)} {σ : L2.St} (hl : τ.length = Δ.length) (w : Wf K H0 Oc (Δ ++ Γ) (τ ++ σ) H) : ∀ vs : List Nat, Wf K H0 Oc (Δ ++ wipeG Γ vs) (τ ++ wipe σ vs) H
  | [] => w
  | _ :: vs => (Wf.wiped hl w vs).unset hl
theorem WfO.toArg (w : WfO K H0 Oc O G S H) (hs : ∀ (i : Nat) (s : Sl), G[i]? = some s → s ≠ .no → ∃ v, S[i]? = some (some v)) : Wf K H O (G.map Sl.arg) S H := by
  refine ⟨O, fun a z => z, fun a z => .inl z, w.live, w.live, fun _ _ z => z, by rw [List.length_map]; exact w.len, fun i s x h1 h2 => ?_, fun i j p d d' h1 _ _ _ => (arg_not h1).elim⟩
  rw [List.getElem?_map] at h1
  cases q : G[i]? with
  | none => rw [q] at h1; cases h1
  | some s' =>
    rw [q] at h1
    cases h1
    by_cases hn : s' = .no
    · rw [hn]; trivial
    · obtain ⟨v, hv⟩ := hs i s' q hn
      rw [h2] at hv
      cases hv
      exact (w.ok i s' _ q h2).arg w.ex
theorem WfO.toArg' (w : WfO K H0 Oc O G S H) : Wf K H O (G.map Sl.arg) S H := w.toArg fun i s h hn => by
  have hi : i < S.length := by
    rw [w.len]
    exact (List.getElem?_eq_some_iff.mp h).1
  have ok := w.ok i s S[i] h (List.getElem?_eq_getElem hi)
  rw [List.getElem?_eq_getElem hi]
  cases s with
  | no => exact absurd rfl hn
  | va d => obtain ⟨v, e, _⟩ := ok; exact ⟨v, by rw [e]⟩
  | ow d => obtain ⟨p, _, e, _⟩ := ok; exact ⟨.ref p, by rw [e]⟩
  | br d => obtain ⟨v, e, _⟩ := ok; exact ⟨v, by rw [e]⟩
  | bw d => obtain ⟨v, e, _⟩ := ok; exact ⟨v, by rw [e]⟩
theorem stab_arg : stab (G.map Sl.arg) = true := by
  unfold stab
  rw [List.all_map, List.all_eq_true]
  intro s _
  cases s <;> rfl
end
/-- the block's context -/
abbrev blkX (X : Cx) (scope : Scope) (s : Shared) (H : Hp) (C : Addr) (cl : List (Str × Addr)) (fp : List Addr) : Cx := X.blk s H scope (compEnvC scope cl C X.env) fp
/-- the tests of a clause -/
def Ets (X : Cx) (H0 : Hp) (Oc : List Addr) (Γ : List Sl) : List Expr → Bool → Prop
  | [], b => b = true
  | [c], b => Et X H0 Oc Γ c b
  | _, _ => False
section
variable {X : Cx} {W : WX} {H0 : Hp} {Oc : List Addr} {Γ Γ1 Γ' : List Sl} {e a b c o tg iter elt : Expr} {ifs : List Expr} {ds : List D} {pos pos' : Pos} {scope : Scope} {own : List (Str × Nat)}
def wG (X : Cx) (scope : Scope) (tg : Expr) : TG := fun v σ H Q => ∀ s0 H00 C cl fp, wpG (blkX X scope s0 H00 C cl fp) tg v σ H Q
def wE (X : Cx) (scope : Scope) (e : Expr) : TE := fun σ H Q => ∀ s0 H00 C cl fp, wpE (blkX X scope s0 H00 C cl fp) e σ H Q
def wT (X : Cx) (scope : Scope) : List Expr → TT
  | [] => tYes
  | [c] => fun σ H Q => ∀ s0 H00 C cl fp, wpT (blkX X scope s0 H00 C cl fp) c σ H Q
  | _ => fun _ _ _ => False
theorem pts_wT : ∀ {ifs : List Expr} {s0 H00 C cl fp}, PTs (blkX X scope s0 H00 C cl fp) ifs (wT X scope ifs)
  | [], _, _, _, _, _ => pts_nil
  | [c], s0, H00, C, cl, fp => pts_one ⟨fun pins s σ H Q I h => h s0 H00 C cl fp pins s I⟩
  | _ :: _ :: _, _, _, _, _, _ => ⟨fun pins s σ H Q I h => h.elim⟩
theorem lc_run {α : Type} (xs : List α) (enc : α → D) (p : α → Bool) (g : α → D) (Γe : α → List Sl) {Δ : List Sl} {τ : List (Option V)} {σ : L2.St} {H : Hp} {Q : VK} {wi : TI} (hl : τ.length = Δ.length) (w : Wf X.K H0 Oc (Δ ++ Γ) (τ ++ σ) H)
    (hwi : ∀ (Δ : List Sl) (τ : List (Option V)) (σ : L2.St) (H : Hp) (R : It → Hp → Prop), τ.length = Δ.length → Wf X.K H0 Oc (Δ ++ Γ) (τ ++ σ) H →
      (∀ J Δh τh H', (∀ H0' Oc', ItOk X.K H0' Oc' J Δh τh (xs.map enc)) → Δh.map Sl.arg = Δh → Wf X.K H0 Oc (Δh ++ (Δ ++ Γ)) (τh ++ (τ ++ σ)) H' → R J H') → wi σ H R)
    (hn : xs.length ≤ 1000000)
    (ht : ∀ x ∈ xs, ∀ H0' Oc' s0 H00 C cl fp, Tgw (blkX X scope s0 H00 C cl fp) H0' Oc' (own.map (·.2)) tg (wipeG (Γ.map Sl.arg) (own.map (·.2))) (.va (enc x)) (Γe x))
    (hst : ∀ x ∈ xs, stab (Γe x) = true ∧ Sub (wipeG (Γe x) (own.map (·.2))) (wipeG (Γ.map Sl.arg) (own.map (·.2))))
    (hp : ∀ x ∈ xs, ∀ H0' Oc' s0 H00 C cl fp, Ets (blkX X scope s0 H00 C cl fp) H0' Oc' (Γe x) ifs (p x))
    (he : ∀ x ∈ xs, p x = true → ∀ H0' Oc' s0 H00 C cl fp, Ev (blkX X scope s0 H00 C cl fp) H0' Oc' (Γe x) elt (.va (g x)))
    (q : ∀ v H', Wf X.K H0 Oc (.ow (.lst ((xs.filter p).map g)) :: (Δ ++ Γ)) (some v :: (τ ++ σ)) H' → Q v H') : tLc wi (wG X scope tg) (wT X scope ifs) (wE X scope elt) (own.map (·.2)) σ H Q := by
  refine hwi Δ τ σ H _ hl w fun J Δh τh H1 ok harg w1 => fun Dl hD => ?_
  obtain ⟨O, w1⟩ := w1
  have ok := ok H1 O
  have w1o : WfO X.K H0 Oc O (Δ ++ Γ) (τ ++ σ) H1 := w1.drop ok.len
  have hla : τ.length = (Δ.map Sl.arg).length := by simp [hl]
  have wb0 := w1.toArg'
  rw [List.map_append, harg, List.map_append] at wb0
  have hl3 : (τh ++ τ).length = (Δh ++ Δ.map Sl.arg).length := by simp [hl, ok.len]
  let Γw := wipeG (Γ.map Sl.arg) (own.map (·.2))
  let A := Δh ++ Δ.map Sl.arg
  let B := τh ++ τ
  have wb : Wf X.K H1 O (A ++ Γw) (B ++ wipe σ (own.map (·.2))) H1 := by
    rw [app3, app3] at wb0
    exact wb0.wiped hl3 _
  let res : Nat → List D := fun i => ((xs.take i).filter p).map g
  have stA : stab A = true := by rw [stab_app, ok.st, stab_arg]; rfl
  refine ⟨fun i m H => m = xs.length - i ∧ i ≤ xs.length ∧ Wf X.K H1 O (.ow (.lst (res i)) :: (A ++ Γw)) (some (.ref Dl) :: (B ++ wipe σ (own.map (·.2)))) H, ⟨xs.length, by simp, Nat.zero_le _, ?_⟩, ?_⟩
  · obtain ⟨O', wb⟩ := wb
    exact ⟨_, wb.newLst hD Reps.nil⟩
  rintro i m H2 ⟨rfl, hi, w2⟩
  by_cases hlt : i < xs.length
  · have w2' : Wf X.K H1 O ([.ow (.lst (res i))] ++ (Δh ++ (Δ.map Sl.arg ++ Γw))) ([some (.ref Dl)] ++ (τh ++ (τ ++ wipe σ (own.map (·.2))))) H2 := by
      rw [app3 (a := Δh), app3 (a := τh)]
      exact w2
    obtain ⟨g1, g2⟩ := ok.go i [_] _ [_] _ H2 rfl (by simpa using hlt) w2'
    refine .inr ⟨g1, fun H' => Wf X.K H1 O (.ow (.lst (res (i + 1))) :: (A ++ Γw)) (some (.ref Dl) :: (B ++ wipe σ (own.map (·.2)))) H', fun H' q1 => ⟨xs.length - (i + 1), by omega, rfl, hlt, q1⟩, fun y H' yy => ?_⟩
    obtain ⟨d, hd, w3⟩ := g2 y H' yy
    have ex : xs[i]? = some xs[i] := List.getElem?_eq_getElem hlt
    generalize xs[i] = x at ex
    have hx : x ∈ xs := List.mem_of_getElem? ex
    rw [List.getElem?_map, ex] at hd
    have hd' := Option.some.inj hd
    subst hd'
    have hres : res (i + 1) = if p x = true then res i ++ [g x] else res i := by
      show ((xs.take (i + 1)).filter p).map g = if p x = true then ((xs.take i).filter p).map g ++ [g x] else ((xs.take i).filter p).map g
      rw [List.take_add_one, ex, List.filter_append]
      cases hp' : p x <;> simp [hp']
    have hlr : (res i).length ≤ 1000000 := by
      show (((xs.take i).filter p).map g).length ≤ _
      rw [List.length_map]
      have h1 := List.length_filter_le p (xs.take i)
      rw [List.length_take] at h1
      omega
    have w3' : Wf X.K H1 O (.va (enc x) :: ((.ow (.lst (res i)) :: A) ++ Γw)) (some y :: ((some (.ref Dl) :: B) ++ wipe σ (own.map (·.2)))) H' := by
      have e1 : [Sl.ow (.lst (res i))] ++ (Δh ++ (Δ.map Sl.arg ++ Γw)) = (.ow (.lst (res i)) :: A) ++ Γw := by
        show _ :: (Δh ++ (Δ.map Sl.arg ++ Γw)) = _ :: ((Δh ++ Δ.map Sl.arg) ++ Γw)
        rw [app3]
      have e2 : [some (V.ref Dl)] ++ (τh ++ (τ ++ wipe σ (own.map (·.2)))) = (some (.ref Dl) :: B) ++ wipe σ (own.map (·.2)) := by
        show _ :: (τh ++ (τ ++ wipe σ (own.map (·.2)))) = _ :: ((τh ++ τ) ++ wipe σ (own.map (·.2)))
        rw [app3]
      rw [e1, e2] at w3
      exact w3
    have hlA : (some (V.ref Dl) :: B).length = (Sl.ow (.lst (res i)) :: A).length := congrArg Nat.succ hl3
    obtain ⟨st1, st2⟩ := hst x hx
    -- the turn's end, once the slots are wiped
    have back : ∀ {r : List D} {σ2 : L2.St} {H4 : Hp}, wipe σ2 (own.map (·.2)) = wipe σ (own.map (·.2)) → Wf X.K H1 O ((.ow (.lst r) :: A) ++ Γe x) ((some (.ref Dl) :: B) ++ σ2) H4 → Wf X.K H1 O (.ow (.lst r) :: (A ++ Γw)) (some (.ref Dl) :: (B ++ wipe σ (own.map (·.2)))) H4 := fun {r σ2 H4} hw w => by
      have z := (w.wiped (show (some (V.ref Dl) :: B).length = (Sl.ow (.lst r) :: A).length from congrArg Nat.succ hl3) (own.map (·.2))).sub (Sub.app st2)
      rw [hw] at z
      exact z
    refine fun s0 H00 C cl fp => ht x hx H1 O s0 H00 C cl fp (.ow (.lst (res i)) :: A) (some (.ref Dl) :: B) _ H' y _ hlA w3' fun σ2 H3 hw2 w4 => ?_
    rw [wipe_wipe] at hw2
    refine ⟨hw2, ?_⟩
    have cont : ∀ (b : Bool) (H4 : Hp), b = p x → Wf X.K H1 O ((.ow (.lst (res i)) :: A) ++ Γe x) ((some (.ref Dl) :: B) ++ σ2) H4 →
        (if b = true then wE X scope elt σ2 H4 fun y H5 => ∃ acc, H5 Dl = some (.lst acc) ∧ acc.length < sizeLine ∧ Wf X.K H1 O (.ow (.lst (res (i + 1))) :: (A ++ Γw)) (some (.ref Dl) :: (B ++ wipe σ (own.map (·.2)))) (upd H5 Dl (.lst (acc ++ [y])))
          else Wf X.K H1 O (.ow (.lst (res (i + 1))) :: (A ++ Γw)) (some (.ref Dl) :: (B ++ wipe σ (own.map (·.2)))) H4) := fun b H4 hb w5 => by
      subst hb
      cases hpx : p x with
      | false =>
        rw [hres, hpx]
        exact back hw2 w5
      | true =>
        refine fun s0 H00 C cl fp => he x hx hpx H1 O s0 H00 C cl fp (.ow (.lst (res i)) :: A) (some (.ref Dl) :: B) σ2 H4 _ hlA w5 fun y' H5 ⟨O5, w6⟩ => ?_
        obtain ⟨pp, oo, e1, k2, k3, k4, k5⟩ := w6.pop.head
        cases e1
        obtain ⟨v', e2, rv⟩ := w6.head
        cases e2
        cases oo <;> first | exact k5.elim | skip
        rename_i us
        have k5' : Reps X.K (cut H5 O5) (res i) us := k5
        refine ⟨us, k4, ?_, ?_⟩
        · rw [k5'.len, sizeLine_eq]
          omega
        · rw [hres, hpx]
          refine back hw2 ⟨O5, ?_⟩
          have z := w6.pop.mut (i := 0) (d' := .lst (res i ++ [g x])) (o' := .lst (us ++ [y'])) (by
            show stab ((Sl.ow (.lst (res i)) :: A) ++ Γe x) = true
            rw [stab_app, st1, stab_cons, stA]
            rfl) rfl rfl (k5'.app (Reps.one rv))
          exact z
    have tst := hp x hx
    match ifs, tst with
    | [], tst => exact cont true H3 (tst H1 O s0 H00 C cl fp).symm w4
    | [c], tst => exact fun s0 H00 C cl fp => tst H1 O s0 H00 C cl fp (.ow (.lst (res i)) :: A) (some (.ref Dl) :: B) σ2 H3 _ hlA w4 fun H4 w5 => cont _ H4 rfl w5
    | _ :: _ :: _, tst => exact (tst H1 O s0 H00 C cl fp).elim
  · have e : i = xs.length := by omega
    subst e
    have w2' : Wf X.K H1 O ([.ow (.lst (res xs.length))] ++ (Δh ++ (Δ.map Sl.arg ++ Γw))) ([some (.ref Dl)] ++ (τh ++ (τ ++ wipe σ (own.map (·.2))))) H2 := by
      rw [app3 (a := Δh), app3 (a := τh)]
      exact w2
    refine .inl ⟨ok.stop _ [_] _ [_] _ H2 rfl (by simp) w2', ?_⟩
    have w3 := w2.only
    have e : res xs.length = (xs.filter p).map g := by
      show ((xs.take xs.length).filter p).map g = _
      rw [List.take_length]
    rw [e] at w3
    exact q _ H2 (w1o.after w3 rfl)
end
end Y

namespace Y
open PySem L2
section
variable {X : Cx} {W : WX} {H0 : Hp} {Oc : List Addr} {Γ Γ1 Γ' : List Sl} {e a b c o tg iter elt ie : Expr} {es ifs : List Expr} {rest body els : List Stmt} {s s0 s1 s2 : Sl} {ss : List Sl} {d d1 d2 : D} {ds ds1 ds2 : List D} {i j : Int} {pos pos' p2 p apos : Pos} {x y m : Str} {out o1 : Out} {n : Nat} {q : Bool} {scope : Scope} {own : List (Str × Nat)}
/-! ### comprehensions -/
theorem ev_lc {α : Type} (xs : List α) (enc : α → D) (pr : α → Bool) (g : α → D) (Γe : α → List Sl) (hc : X.calm = true) (hN : X.N.Nodup) (ok : BlkOk X.N X.env.scope scope own) (hi : Ei X H0 Oc Γ tg iter (xs.map enc)) (hn : xs.length ≤ 1000000)
    (ht : ∀ x ∈ xs, ∀ H0' Oc' s0 H00 C cl fp, Tgw (blkX X scope s0 H00 C cl fp) H0' Oc' (own.map (·.2)) tg (wipeG (Γ.map Sl.arg) (own.map (·.2))) (.va (enc x)) (Γe x))
    (hst : ∀ x ∈ xs, stab (Γe x) = true ∧ Sub (wipeG (Γe x) (own.map (·.2))) (wipeG (Γ.map Sl.arg) (own.map (·.2))))
    (hp : ∀ x ∈ xs, ∀ H0' Oc' s0 H00 C cl fp, Ets (blkX X scope s0 H00 C cl fp) H0' Oc' (Γe x) ifs (pr x))
    (he : ∀ x ∈ xs, pr x = true → ∀ H0' Oc' s0 H00 C cl fp, Ev (blkX X scope s0 H00 C cl fp) H0' Oc' (Γe x) elt (.va (g x)))
    (hs : ∀ x, foldedSetIterable iter X.env x = pure x := by intro _; rfl) : Ev X H0 Oc Γ (.ListComp elt [⟨tg, iter, ifs, 0⟩] scope pos) (.ow (.lst ((xs.filter pr).map g))) := fun Δ τ σ H Q hl w k => by
  obtain ⟨wi, hpi, hwi⟩ := hi
  refine wpE.of (pe_lc (g := wG X scope tg) (tt := wT X scope ifs) (te := wE X scope elt) hc hN hpi ok (fun s0 H00 C cl fp => ⟨fun pins s σ H v u Q I r h => h s0 H00 C cl fp pins s u I r⟩) (fun s0 H00 C cl fp => pts_wT) (fun s0 H00 C cl fp => ⟨fun pins s σ H Q I h => h s0 H00 C cl fp pins s I⟩) hs) ?_
  exact lc_run xs enc pr g Γe hl w hwi hn ht hst hp he k
theorem sds_setLc {α : Type} (n : Nat) (xs : List α) (enc : α → D) (pr : α → Bool) (g : α → D) (Γe : α → List Sl) (hc : X.calm = true) (hN : X.N.Nodup) (ok : BlkOk X.N X.env.scope scope own) (hi : Ei X H0 Oc Γ tg iter (xs.map enc)) (hn : xs.length ≤ 1000000)
    (ht : ∀ x ∈ xs, ∀ H0' Oc' s0 H00 C cl fp, Tgw (blkX X scope s0 H00 C cl fp) H0' Oc' (own.map (·.2)) tg (wipeG (Γ.map Sl.arg) (own.map (·.2))) (.va (enc x)) (Γe x))
    (hst : ∀ x ∈ xs, stab (Γe x) = true ∧ Sub (wipeG (Γe x) (own.map (·.2))) (wipeG (Γ.map Sl.arg) (own.map (·.2))))
    (hp : ∀ x ∈ xs, ∀ H0' Oc' s0 H00 C cl fp, Ets (blkX X scope s0 H00 C cl fp) H0' Oc' (Γe x) ifs (pr x))
    (he : ∀ x ∈ xs, pr x = true → ∀ H0' Oc' s0 H00 C cl fp, Ev (blkX X scope s0 H00 C cl fp) H0' Oc' (Γe x) elt (.va (g x)))
    (hr : Sds X W H0 Oc (Γ.set n (.ow (.lst ((xs.filter pr).map g)))) rest out)
    (hy : X.N[n]? = some y) (hyl : X.env.scope.names.lookup y = some .local) (hk : X.env.scope.kind = .function := by rfl) (hln : (p.line == pos.line) = true := by rfl)
    (han : (scope.names.any fun (m, k) => m == y && (k == .local || k == .cell)) = false := by decide +kernel)
    (hs : ∀ x, foldedSetIterable iter X.env x = pure x := by intro _; rfl) : Sds X W H0 Oc Γ (.Assign [.Name y p] (.ListComp elt [⟨tg, iter, ifs, 0⟩] scope pos) pos' :: rest) out := fun Δ τ σ H D hl st w k => by
  obtain ⟨wi, hpi, hwi⟩ := hi
  refine wpSs.of (pss_cons (ps_setLc (g := wG X scope tg) (tt := wT X scope ifs) (te := wE X scope elt) hc hN hy hyl (sw_true hk hyl hln han) hpi ok (fun s0 H00 C cl fp => ⟨fun pins s σ H v u Q I r h => h s0 H00 C cl fp pins s u I r⟩) (fun s0 H00 C cl fp => pts_wT) (fun s0 H00 C cl fp => ⟨fun pins s σ H Q I h => h s0 H00 C cl fp pins s I⟩) hs) pss_wp) ?_
  exact lc_run xs enc pr g Γe hl w hwi hn ht hst hp he fun v H1 ⟨O, w1⟩ => hr Δ τ _ H1 D hl st ⟨O, w1.set hl⟩ k
theorem tgw_name {vs : List Nat} (n : Nat) (hN : X.N.Nodup) (hi : X.N[n]? = some x) (hx : Loc X.env.scope x) (hf : X.fn x = true ∨ X.env.scope.names.lookup x = some .local) (hv : n ∈ vs) : Tgw X H0 Oc vs (.Name x pos') Γ s (Γ.set n s) :=
  fun Δ τ σ H v Q hl ⟨O, w⟩ k => wpG.of (pg_name hN hi hx hf) (k _ H (wipe_set hv) ⟨O, w.set hl⟩)
/-! ### pairs as targets -/
theorem tg_tup2 {z : Str} {p3 : Pos} {kk : Nat} (n1 n2 : Nat) (hc : X.calm = true) (hN : X.N.Nodup) (h1 : X.N[n1]? = some x) (h2 : X.N[n2]? = some z) (hx : Loc X.env.scope x) (hz : Loc X.env.scope z) (hf : X.fn x = true ∨ X.env.scope.names.lookup x = some .local) (hg : X.fn z = true ∨ X.env.scope.names.lookup z = some .local) :
    Tg X H0 Oc (.Tuple [.Name x p, .Name z p2] kk p3) Γ (.va (.tup [d1, d2])) ((Γ.set n1 (.va d1)).set n2 (.va d2)) := fun Δ τ σ H v Q hl st ⟨O, w⟩ k => by
  refine wpG.of (pg_tup (n := 2) hc (pgs_cons (pg_name hN h1 hx hf) (pgs_cons (pg_name hN h2 hz hg) pgs_nil))) ?_
  obtain ⟨u, e, a, vs, rfl, ha, hr⟩ := w.head
  cases e
  obtain ⟨v1, us, rfl, r1, v2, us2, rfl, r2, e3⟩ := hr
  cases e3
  refine ⟨a, _, rfl, .of (cut_ex _ _ ha), rfl, v1, [v2], rfl, v2, [], rfl, rfl, k _ H ⟨O, ?_⟩⟩
  have w1 := (w.pop.push (s := .va d1) (y := some v1) ⟨v1, rfl, r1⟩ fun _ z => nomatch z).set (n := n1) hl
  exact (w1.push (s := .va d2) (y := some v2) ⟨v2, rfl, r2⟩ fun _ z => nomatch z).set (n := n2) hl
theorem tgw_tup2 {z : Str} {p3 : Pos} {kk : Nat} {vs : List Nat} (n1 n2 : Nat) (hc : X.calm = true) (hN : X.N.Nodup) (h1 : X.N[n1]? = some x) (h2 : X.N[n2]? = some z) (hx : Loc X.env.scope x) (hz : Loc X.env.scope z) (hf : X.fn x = true ∨ X.env.scope.names.lookup x = some .local) (hg : X.fn z = true ∨ X.env.scope.names.lookup z = some .local) (hv1 : n1 ∈ vs) (hv2 : n2 ∈ vs) :
    Tgw X H0 Oc vs (.Tuple [.Name x p, .Name z p2] kk p3) Γ (.va (.tup [d1, d2])) ((Γ.set n1 (.va d1)).set n2 (.va d2)) := fun Δ τ σ H v Q hl ⟨O, w⟩ k => by
  refine wpG.of (pg_tup (n := 2) hc (pgs_cons (pg_name hN h1 hx hf) (pgs_cons (pg_name hN h2 hz hg) pgs_nil))) ?_
  obtain ⟨u, e, a, vs', rfl, ha, hr⟩ := w.head
  cases e
  obtain ⟨v1, us, rfl, r1, v2, us2, rfl, r2, e3⟩ := hr
  cases e3
  refine ⟨a, _, rfl, .of (cut_ex _ _ ha), rfl, v1, [v2], rfl, v2, [], rfl, rfl, k _ H ((wipe_set hv2).trans (wipe_set hv1)) ⟨O, ?_⟩⟩
  have w1 := (w.pop.push (s := .va d1) (y := some v1) ⟨v1, rfl, r1⟩ fun _ z => nomatch z).set (n := n1) hl
  exact (w1.push (s := .va d2) (y := some v2) ⟨v2, rfl, r2⟩ fun _ z => nomatch z).set (n := n2) hl
/-! ### xs[i] = e -/
theorem sds_ix {ii : Int} {jj : Nat} {tp : Pos} (n : Nat) (h : Γ[n]? = some (.ow (.lst ds))) (hst : stab Γ = true) (he : Ev X H0 Oc Γ e (.va d)) (hi : Ev X H0 Oc Γ ie (.va (.int ii))) (hj : ixN ds.length ii = some jj) (hr : Sds X W H0 Oc (Γ.set n (.ow (.lst (ds.set jj d)))) rest out)
    (hN : X.N[n]? = some x) (hv : Vis X.env.scope x) (hd : (x == ("__debug__" : Str)) = false) (hcd : (x == ("__classdict__" : Str)) = false)
    (hss : swapsWithSole [.Subscript (.Name x p) ie tp] e pos.line X.env = pure false := by rfl) (hw : swappedStores [.Subscript (.Name x p) ie tp] e X.env = pure none := by rfl)
    (h1 : (assignEach [.Subscript (.Name x p) ie tp] X.env).map (·.2) = [assign (.Subscript (.Name x p) ie tp) X.env] := by rfl)
    (has : ∀ v, assign (.Subscript (.Name x p) ie tp) X.env v = (do
      let ov ← holding [v] (eval (.Name x p) X.env)
      let iv ← holding [v, ov] (eval ie X.env)
      standAt tp
      holding [v, ov, iv] (setItem ov iv v)
      release [v, ov, iv] []) := by intro _; rfl) :
    Sds X W H0 Oc Γ (.Assign [.Subscript (.Name x p) ie tp] e pos :: rest) out := fun Δ τ σ H D hl st w k => by
  refine wpSs.of (pss_cons (ps_asg pe_wp (pg_sub (pe_var hN hv hd hcd) pe_wp set_list has) hss hw h1) pss_wp) ?_
  refine he Δ τ σ H _ hl w fun v H1 ⟨O1, w1⟩ => ?_
  obtain ⟨y, hy, pp, oo, rfl, g2, g3, g4, g5⟩ := slot_of hl w1.pop h
  refine ⟨.ref pp, hy, ?_⟩
  refine hi (.va d :: Δ) (some v :: τ) σ H1 _ (by simp [hl]) ⟨O1, w1⟩ fun iv H2 ⟨O2, w2⟩ => ?_
  obtain ⟨iv', e1, r1⟩ := w2.head
  cases e1
  obtain rfl : iv = .int ii := r1
  obtain ⟨y', hy', q, u, e1, k2, k3, k4, k5⟩ := slot_of hl w2.pop.pop h
  rw [hy] at hy'
  cases hy'
  cases e1
  obtain ⟨v', e2, rv⟩ := w2.pop.head
  cases e2
  cases u <;> first | exact k5.elim | skip
  rename_i vs
  have k5' : Reps X.K (cut H2 O2) ds vs := k5
  refine ⟨pp, vs, ii, jj, rfl, rfl, k4, by rw [k5'.len]; exact hj, ?_⟩
  exact hr Δ τ σ _ D hl st ⟨O2, w2.pop.pop.mutN hl st hst h hy (o' := .lst (vs.set jj v)) (d' := .lst (ds.set jj d)) (Reps.set jj k5' rv)⟩ k
/-! ### the truth of a list or tuple -/
theorem et_seq (ha : Ev X H0 Oc Γ a (.bw d)) (hd : seqD d = some ds) (he : ∀ whole, isTrue a X.env whole = (do let v ← whole; standAt a.pos; holding [v] (truthy v)) := by intro _; rfl) : Et X H0 Oc Γ a (!ds.isEmpty) := fun Δ τ σ H Q hl w k =>
  wpT.of (pt_truth pe_wp he) (ha Δ τ σ H _ hl w fun v H' w' => by
    obtain ⟨⟨O, h⟩, w2⟩ := w'.popB
    obtain ⟨pp, vs, rfl, hq, r⟩ := h.seq hd
    have e : (!vs.isEmpty) = !ds.isEmpty := by
      have := r.len
      cases vs <;> cases ds <;> simp at this ⊢
    refine ⟨_, ?_, k H' w2⟩
    rcases hq with hq | hq
    · exact .inl ⟨vs, hq, e.symm⟩
    · exact .inr (.inl ⟨vs, hq, e.symm⟩))
/-! ### isinstance -/
def tyD : D → Option Value
  | .non => some (.type "NoneType")
  | .bl _ => some (.type "bool")
  | .int _ => some (.type "int")
  | .str _ => some (.type "str")
  | .tup _ => some (.type "tuple")
  | .lst _ => some (.type "list")
  | .dT _ _ => some (.type "dict")
  | .dK _ _ => some (.type "dict")
  | .obj C _ _ => some (.ref C)
  | .slf _ C _ _ => some (.ref C)
  | _ => none
structure IsC (K : PySem.W.Frag) (C : Addr) : Prop where
  cl : Cls K C
  ha : PySem.W.findIn K (.ref C) "__class__" = some (some (.builtin "object.__class__"))
  hn : PySem.W.specialIn K (.builtin "object.__class__") "__get__" = some (some (.builtin "getset_descriptor.__get__"))
  tk : PySem.W.takesIn K (.builtin "object.__class__") = some true
  hm : PySem.W.mroIn K C (.type "object") = some true
theorem RepB.ty {K : PySem.W.Frag} {Ht H H' : Hp} {v : V} {t : Value} (ex : Ex Ht H') (h : RepB K Ht H d v) (ht : tyD d = some t) (hc : ∀ C, t = .ref C → IsC K C) : TyX K H' v t := by
  cases d <;> first
    | (cases ht; done)
    | (have e := Option.some.inj ht; subst e; rw [show v = _ from h]; exact .base (by constructor))
    | skip
  · obtain ⟨pp, vs, rfl, h2, h3⟩ := h; cases ht; exact .base (.tup (ex _ _ h2))
  · obtain ⟨pp, vs, rfl, h2, h3⟩ := h; cases ht; exact .base (.lst (ex _ _ h2))
  · obtain ⟨pp, dx, fs, rfl, h2, h3⟩ := h
    cases ht
    have z := hc _ rfl
    exact .base (.ins (ex _ _ h2) z.cl z.ha z.hn z.tk z.hm)
  · obtain ⟨pp, vs, rfl, h2, h3⟩ := h; cases ht; exact .base (.dT (ex _ _ h2))
  · obtain ⟨pp, vs, rfl, h2, h3⟩ := h; cases ht; exact .base (.dK (ex _ _ h2))
  · obtain ⟨dx, fs, rfl, h2, h3⟩ := h
    cases ht
    have z := hc _ rfl
    exact .base (.ins (ex _ _ h2) z.cl z.ha z.hn z.tk z.hm)
/-- names of built-in classes and of one's own -/
theorem ev_ty {T : String} (hg : Gl X x) (hm : X.mg x = none) (hv : bootBuiltins x = some (.type T)) (hn : x ≠ "__name__" := by decide) (hdb : (x == ("__debug__" : Str)) = false := by decide) : Ev X H0 Oc Γ (.Name x pos) (.va (.opq (.ty T))) :=
  ev_flat (pe_bltn (v := .ty T) hg hm hv rfl hn hdb) (fun _ _ _ q => q) rfl fun _ => rfl
theorem ev_cls {C : Addr} (hg : Gl X x) (hm : X.mg x = some (.ref C)) (hdb : (x == ("__debug__" : Str)) = false := by decide) : Ev X H0 Oc Γ (.Name x pos) (.va (.opq (.ref C))) :=
  ev_flat (pe_glob (v := .ref C) hg hm rfl hdb) (fun _ _ _ q => q) rfl fun _ => rfl
theorem ev_isi {cv : V} {u t : Value} (ha : Ev X H0 Oc Γ a (.bw d)) (hb : Ev X H0 Oc Γ b (.va (.opq cv))) (k : ClsV cv u) (ht : tyD d = some t) (hk : PySem.W.kitOne X.K t u = some q) (hm : X.mg "isinstance" = none) (hc : ∀ C, t = .ref C → IsC X.K C) (hg : Gl X "isinstance")
    (he : starEach [a, b] X.env = (false, eval a X.env) :: starEach [b] X.env) (he2 : starEach [b] X.env = (false, eval b X.env) :: starEach [] X.env) (hpl : (backTo pos (starEach [b] X.env)).any (·.1) = false) : Ev X H0 Oc Γ (.Call (.Name "isinstance" p) [a, b] [] pos) (.va (.bl q)) := fun Δ τ σ H Q hl w kk =>
  wpE.of (pe_callB call_isi hg hm (by decide +kernel) (pa_cons pe_wp (pa_cons pe_wp pa_nil he2) he) (by decide) (by decide) he hpl) (ha Δ τ σ H _ hl w fun v H1 w1 =>
    hb (.bw d :: Δ) (some v :: τ) σ H1 _ (by simp [hl]) w1 fun z H2 ⟨O, w2⟩ => by
      obtain ⟨z', e1, r1⟩ := w2.head
      cases e1
      obtain rfl : z = cv := r1
      obtain ⟨v', e2, r2⟩ := w2.pop.head
      cases e2
      exact ⟨v, z, t, u, q, rfl, k, r2.ty (fun _ _ z => z) ht hc, hk, kk _ H2 ⟨O, w2.pop.pop.flat (d := .bl q) (H' := H2) rfl rfl⟩⟩)
/-! ### an error that an except suite holds -/
structure XcE (K : PySem.W.Frag) (C : Addr) : Prop where
  xf : XfC K C
  cl : (PySem.W.clsIn K C).isSome = true
  ha : PySem.W.findIn K (.ref C) "__class__" = some (some (.builtin "object.__class__"))
  hn : PySem.W.specialIn K (.builtin "object.__class__") "__get__" = some (some (.builtin "getset_descriptor.__get__"))
  tk : PySem.W.takesIn K (.builtin "object.__class__") = some true
  hm : PySem.W.mroIn K C (.type "object") = some true
def rIsiE (a C dd : Addr) (K : PySem.W.Frag) : List V → Hp → VK → Prop := fun xs H Q => ∃ c u b fs, xs = [.ref a, c] ∧ H dd = some (.xd fs) ∧ ClsV c u ∧ PySem.W.kitOne K (.ref C) u = some b ∧ Q (.bl b) H
theorem call_isiE {a C dd : Addr} {oe : Obj} {pn : List (Addr × Obj)} (T : XcE X.K C) (hz : L2N.Zn (.ref C) (some dd) oe) (hf : ∃ vs, oe.data = .fields vs) : CallR (X.suite a ((a, oe) :: pn)) (.builtin "isinstance") (rIsiE a C dd X.K) := by
  intro pins s σ H xs us Q I r h
  obtain ⟨c, u, b, fs, rfl, ea, k, e, q⟩ := h
  obtain ⟨u1, u2, rfl, r1, r2⟩ := vals2 r
  have e2 := k.eq r2
  subst e2
  obtain rfl : u1 = Value.ref a := r1
  obtain ⟨hA, _⟩ := I.pin (a, oe) (List.mem_append_left _ List.mem_cons_self)
  obtain ⟨vs, hd⟩ := hf
  have hx : ObjOk X.prog X.w H s.heap dd (.xd fs) := I.hok dd _ ea
  obtain ⟨mA, hns, hr⟩ := hx
  obtain ⟨od, ho, hl⟩ := lookIn_ns hns
  have J : PySem.W.InstAt s.heap a oe C (some od) := ⟨hA, hz.1, by unfold PySem.W.notCls; rw [hd] <;> rfl, by rw [hz.2.1]; exact ho⟩
  exact PySem.W.kia_one (PySem.W.kitx_exc T.cl T.xf.ga T.xf.gg T.xf.exC T.ha T.hn T.tk T.hm) I.kIn J e (fun z => nomatch z) fun tk => ⟨.bl b, H, I.tok tk, rfl, q⟩
theorem ev_isiE {ad C dd : Addr} {oe : Obj} {pn : List (Addr × Obj)} {cv : V} {u : Value} {ns : List Str} (T : XcE X.K C) (hz : L2N.Zn (.ref C) (some dd) oe) (hf : ∃ vs, oe.data = .fields vs) (ha : Ev (X.suite ad ((ad, oe) :: pn)) H0 Oc Γ a (.va (.er ad C dd ns ds))) (hb : Ev (X.suite ad ((ad, oe) :: pn)) H0 Oc Γ b (.va (.opq cv)))
    (k : ClsV cv u) (hk : PySem.W.kitOne X.K (.ref C) u = some q) (hm : X.mg "isinstance" = none) (hg : Gl X "isinstance")
    (he : starEach [a, b] X.env = (false, eval a X.env) :: starEach [b] X.env) (he2 : starEach [b] X.env = (false, eval b X.env) :: starEach [] X.env) (hpl : (backTo pos (starEach [b] X.env)).any (·.1) = false) : Ev (X.suite ad ((ad, oe) :: pn)) H0 Oc Γ (.Call (.Name "isinstance" p) [a, b] [] pos) (.va (.bl q)) := fun Δ τ σ H Q hl w kk =>
  wpE.of (pe_callB (X := X.suite ad ((ad, oe) :: pn)) (call_isiE T hz hf) hg hm (by decide +kernel) (pa_cons pe_wp (pa_cons pe_wp pa_nil he2) he) (by decide) (by decide) he hpl) (ha Δ τ σ H _ hl w fun v H1 w1 =>
    hb (.va (.er ad C dd ns ds) :: Δ) (some v :: τ) σ H1 _ (by simp [hl]) w1 fun z H2 ⟨O, w2⟩ => by
      obtain ⟨z', e1, r1⟩ := w2.head
      cases e1
      obtain rfl : z = cv := r1
      obtain ⟨v', e2, fs, rfl, h2, h3⟩ := w2.pop.head
      cases e2
      exact ⟨z, u, q, fs, rfl, cut_ex _ _ h2, k, hk, kk _ H2 ⟨O, w2.pop.pop.flat (d := .bl q) (H' := H2) rfl rfl⟩⟩)
/-- e.f -/
theorem ev_xf {ad C dd : Addr} {oe : Obj} {pn : List (Addr × Obj)} {f : Str} {ns : List Str} (T : XfC X.K C) (hno : PySem.W.findIn X.K (.ref C) f = some none) (hz : L2N.Zn (.ref C) (some dd) oe) (hf : ∃ vs, oe.data = .fields vs) (ha : Ev (X.suite ad ((ad, oe) :: pn)) H0 Oc Γ a (.va (.er ad C dd ns ds)))
    (hi : (ns.zip ds).lookup f = some d) (hab : attributeBase a f X.env (eval a X.env) = eval a X.env := by rfl) : Ev (X.suite ad ((ad, oe) :: pn)) H0 Oc Γ (.Attribute a f pos) (.va d) := fun Δ τ σ H Q hl w kk =>
  wpE.of (pe_xf T hno hz.zc hf pe_wp hab) (ha Δ τ σ H _ hl w fun v H1 ⟨O, w1⟩ => by
    obtain ⟨v', e2, fs, rfl, h2, h3, h4⟩ := w1.head
    cases e2
    subst h3
    obtain ⟨z, hz, rz⟩ := h4.look hi
    exact ⟨rfl, rfl, dd, fs, z, rfl, cut_ex _ _ h2, hz, kk z H1 ⟨O, w1.pop.push ⟨z, rfl, rz⟩ fun _ z => nomatch z⟩⟩)
end
end Y

namespace Y
open PySem L2
/-! ### calls that may let an exception out: C(..), a op b -/
section
variable {X : Cx} {CX : CXT} {k : Nat} {f C : Addr} {fd : FuncData} {ps : List Str} {sp : Sp} {E : L2.St → XK} {x m : Str} {p pos apos : Pos} {a b e o : Expr} {es : List Expr} {ta tb : TE} {t : TA} {op : Operator}
theorem run_makeS {pins : List (Addr × Obj)} {σ : L2.St} {H : Hp} {s : Shared} {Q : VK} {us : List Value} {vs : List V} (M : Mk X.K C f) (Fi : FnOk X.prog X.w X.K X.mg X.base CX k f fd ps sp) (hr : Room (k + 1) X.A) (hb : L2.Binds X.K fd ps [])
    (hx : PassesAt CX X σ (E σ)) (I : Inv X pins σ H s) (r : Vals vs us)
    (h : ∀ y dx, H y = none → H dx = none → dx ≠ y → sp (.ref y :: vs) (upd (upd H dx (.own y)) y (.ins C dx [])) (fun v H2 => v = .non ∧ Q (.ref y) H2) (E σ)) :
    wpAny (model X.prog X.w) X.A (call (.ref C) us) (EP X pins σ Q) X.xe s := by
  -- the two new places
  obtain ⟨n, hn⟩ : ∃ n, s.heap.objs.size = n := ⟨_, rfl⟩
  have pr := h (n + 1) n (I.hok.fresh (by omega)) (I.hok.fresh (by omega)) (Nat.ne_of_lt (Nat.lt_succ_self n))
  have J := Inv.made (C := C) I
  rw [hn] at J
  have rv : Vals (V.ref (n + 1) :: vs) (Value.ref (n + 1) :: us) := .cons rfl r
  have len : (Value.ref (n + 1) :: us).length = ps.length := rv.length.symm.trans (Fi.len _ _ _ _ pr)
  have bb := hb _ _ J.kIn (by rw [List.append_nil]; exact len)
  rw [List.append_nil] at bb
  subst hn
  apply wpAny_call
  refine make_map (f := f) I.kIn M.makes M.init (beq_iff_eq.mp M.fn) ?_
  refine codeAny_mono (Fi.run _ X.stack _ _ _ _ _ _ _ (hr.make C us []) (J.env0.make C us []) bb rv pr) fun r s' done => ?_
  match r, done with
  | .error er, done => exact hx pins _ _ er s' J done
  | .ok .next, done => exact done.elim
  | .ok .brk, done => exact done.elim
  | .ok .cont, done => exact done.elim
  | .ok (.ret u), done =>
    obtain ⟨v, H', I3, rv3, isN, q3⟩ := J.after done
    subst isN
    exact ⟨rv3, ⟨V.ref (s.heap.objs.size + 1), H', I3, rfl, q3⟩⟩
def tMakeS (C : Addr) (sp : Sp) (E : L2.St → XK) (t : TA) : TE := fun σ H Q => t σ H fun vs H1 => ∀ y dx, H1 y = none → H1 dx = none → dx ≠ y → sp (.ref y :: vs) (upd (upd H1 dx (.own y)) y (.ins C dx [])) (fun v H2 => v = .non ∧ Q (.ref y) H2) (E σ)
theorem pe_makeS (M : Mk X.K C f) (Fi : FnOk X.prog X.w X.K X.mg X.base CX k f fd ps sp) (hr : Room (k + 1) X.A) (hg : Gl X x) (hm : X.mg x = some (.ref C)) (hb : L2.Binds X.K fd ps []) (hx : ∀ σ, PassesAt CX X σ (E σ)) (ha : PA X (e :: es) t)
    (hdb : (x == ("__debug__" : Str)) = false) (he : starEach (e :: es) X.env = (false, eval e X.env) :: starEach es X.env) (hpl : (backTo pos (starEach es X.env)).any (·.1) = false) : PE X (.Call (.Name x p) (e :: es) [] pos) (tMakeS C sp E t) :=
  ⟨fun pins s σ H Q I h => wpAny_Call_Name_kw (ld_glob I hg hm
    (PySem.W.callWith_K (h₀ := X.base) I.ok.mod.kin M.kp (thn (ha.run pos pins s σ H _ I h) fun us s1 ⟨vs, H1, I1, r, q⟩ => ⟨I1.kIn, run_makeS M Fi hr hb (hx σ) I1 r q⟩) he hpl) hdb)⟩
def tOwnS (C : Addr) (sp : Sp) (E : L2.St → XK) (ta tb : TE) : TE := fun σ H Q => ta σ H fun x H1 => tb σ H1 fun y H2 => Own.rOwn C sp (E σ) x y H2 Q
theorem pe_ownS (hc : PySem.W.selfFirst X.K C = true) (hs : PySem.W.findIn X.K (.ref C) (PySem.dunder op.info.2) = some (some (.ref f))) (hf : PySem.W.isFn X.K (.ref f) = true)
    (Fi : FnOk X.prog X.w X.K X.mg X.base CX k f fd ps sp) (hr : Room k X.A) (hb : L2.Binds X.K fd ps []) (hx : ∀ σ, PassesAt CX X σ (E σ)) (ha : PE X a ta) (hb2 : PE X b tb) : PE X (.BinOp a op b pos) (tOwnS C sp E ta tb) := by
  refine ⟨fun pins s σ H Q I h => wpAny_BinOp (binT ha hb2 I h fun v u s2 x y H2 I2 rx ry q => ?_)⟩
  obtain ⟨aa, dx, fs, bb, dy, gs, rfl, rfl, ea, eb, q⟩ := q
  cases rx
  cases ry
  obtain ⟨_, Oa, _⟩ := ins_get I2.hok ea
  obtain ⟨_, Ob, _⟩ := ins_get I2.hok eb
  obtain ⟨_, Ja, _⟩ := Oa.look
  obtain ⟨_, Jb, _⟩ := Ob.look
  obtain ⟨_, fr⟩ := I2.fr
  refine PySem.W.binop_K fr I2.ok.mod.kin Ja Jb.type hc hs hf ?_
  exact thn (run_fnS (us := [.ref aa, .ref bb]) (vs := [.ref aa, .ref bb]) Fi hr hb (hx σ) I2 (.cons rfl (.cons rfl .nil)) q) fun r s' ⟨v', H', I', r', q'⟩ => Own.back_of r' ⟨v', H', I', r', q'⟩
end
section
variable {X : Cx} {W : WX} {H0 : Hp} {Oc : List Addr} {Γ Γ1 Γ' : List Sl} {e a b c o tg iter elt ie : Expr} {es ifs : List Expr} {rest body els : List Stmt} {s s0 s1 s2 : Sl} {ss : List Sl} {d d1 d2 : D} {ds ds1 ds2 : List D} {i j : Int} {pos pos' p2 p apos : Pos} {x y m f g : Str} {out o1 : Out} {n : Nat} {q : Bool} {k : Nat} {ps : List Str} {P : Pm} {C C1 : Addr} {ns : List Str}
/-- C(..), an __init__ that raises -/
theorem exx_make {Γe : Option (List Sl)} (tk : L2N.Takes X W) (F : ClG X.prog X.w X.K X.mg X.base x C k ps P) (hr : Room (k + 1) X.A) (ha : Ea X H0 Oc Γ (e :: es) ss) (hp : P (ss.map Sl.arg) (.exc C1 ns ds Γe)) (hg : Gl X x := by rfl) (hdb : (x == ("__debug__" : Str)) = false := by decide)
    (he : starEach (e :: es) X.env = (false, eval e X.env) :: starEach es X.env := by rfl) (hpl : (backTo pos (starEach es X.env)).any (·.1) = false := by rfl) : Exx X W H0 Oc Γ (.Call (.Name x p) (e :: es) [] pos) C1 ns ds := fun Δ τ σ H Q hl w q => by
  obtain ⟨fi, fd, Fi, hM, hm, hb⟩ := F.ex
  refine wpE.of (pe_makeS (E := WE W) hM Fi hr hg hm hb (fun σ => L2N.passAt tk σ) pa_wp hdb he hpl) ?_
  refine ha Δ τ σ H _ hl w fun vs O H1 w1 ok => ?_
  intro yy dx ny ndx ne
  exact ⟨H1, O, _, _, _, _, hp, rfl, WfO.making (w1.callee ok) ny ndx ne, fun d H' w2 => q d H' (w1.after w2 rfl)⟩
/-- a op b, own classes -/
theorem ev_own {op : Operator} {ns1 : List Str} (hc : PySem.W.selfFirst X.K C = true) (F : MtG X.prog X.w X.K X.mg X.base C (PySem.dunder op.info.2) k ps P) (hr : Room k X.A) (ha : Ev X H0 Oc Γ a s1) (hd1 : s1.dat = some (.obj C ns ds1)) (hb : Ev X H0 Oc Γ b s2) (hd2 : s2.dat = some (.obj C ns1 ds2))
    (hp : P [s1.arg, s2.arg] (.ret s)) (hs : s.res = true := by rfl) : Ev X H0 Oc Γ (.BinOp a op b pos) s := fun Δ τ σ H Q hl w q => by
  obtain ⟨fi, fd, Fi, hM, hbd⟩ := F.ex
  refine wpE.of (pe_op (Own.op_own (E := E0) hc hM.at_ hM.fn Fi hr hbd passLN) pe_wp pe_wp) ?_
  refine ha Δ τ σ H _ hl w fun v H1 w1 => ?_
  refine hb (s1 :: Δ) (some v :: τ) σ H1 _ (by simp [hl]) w1 fun u H2 ⟨O, w2⟩ => ?_
  obtain ⟨r2, dx2, fs2, rfl, g2, g3, g4⟩ := (w2.head.b w2.ex hd2 : RepB _ _ _ (.obj C ns1 ds2) u)
  obtain ⟨r1, dx1, fs1, rfl, k2, k3, k4⟩ := (w2.pop.head.b w2.ex hd1 : RepB _ _ _ (.obj C ns ds1) v)
  refine ⟨r1, dx1, fs1, r2, dx2, fs2, rfl, rfl, k2, g2, O, [s1.arg, s2.arg], _, hp, ?_, fun v H' w3 => q v H' (w2.pop.pop.after w3 hs)⟩
  exact w2.callee (ss := [s1, s2]) (vs := [.ref r1, .ref r2]) ⟨_, _, rfl, w2.pop.head, _, _, rfl, w2.head, rfl⟩
theorem exx_own {op : Operator} {ns1 : List Str} {Γe : Option (List Sl)} {xs : List Str} (tk : L2N.Takes X W) (hc : PySem.W.selfFirst X.K C = true) (F : MtG X.prog X.w X.K X.mg X.base C (PySem.dunder op.info.2) k ps P) (hr : Room k X.A) (ha : Ev X H0 Oc Γ a s1) (hd1 : s1.dat = some (.obj C ns ds1)) (hb : Ev X H0 Oc Γ b s2) (hd2 : s2.dat = some (.obj C ns1 ds2))
    (hp : P [s1.arg, s2.arg] (.exc C1 xs ds Γe)) : Exx X W H0 Oc Γ (.BinOp a op b pos) C1 xs ds := fun Δ τ σ H Q hl w q => by
  obtain ⟨fi, fd, Fi, hM, hbd⟩ := F.ex
  refine wpE.of (pe_ownS (E := WE W) hc hM.at_ hM.fn Fi hr hbd (fun σ => L2N.passAt tk σ) pe_wp pe_wp) ?_
  refine ha Δ τ σ H _ hl w fun v H1 w1 => ?_
  refine hb (s1 :: Δ) (some v :: τ) σ H1 _ (by simp [hl]) w1 fun u H2 ⟨O, w2⟩ => ?_
  obtain ⟨r2, dx2, fs2, rfl, g2, g3, g4⟩ := (w2.head.b w2.ex hd2 : RepB _ _ _ (.obj C ns1 ds2) u)
  obtain ⟨r1, dx1, fs1, rfl, k2, k3, k4⟩ := (w2.pop.head.b w2.ex hd1 : RepB _ _ _ (.obj C ns ds1) v)
  refine ⟨r1, dx1, fs1, r2, dx2, fs2, rfl, rfl, k2, g2, O, [s1.arg, s2.arg], _, hp, ?_, fun d H' w3 => q d H' (w2.pop.pop.after w3 rfl)⟩
  exact w2.callee (ss := [s1, s2]) (vs := [.ref r1, .ref r2]) ⟨_, _, rfl, w2.pop.head, _, _, rfl, w2.head, rfl⟩
/-! ### statements whose expression raises -/
theorem sds_setX {pos2 : Pos} (hN : X.N.Nodup) (hi : X.N[n]? = some x) (hx : Loc X.env.scope x) (he : Exx X W H0 Oc Γ e C ns ds) (hs : swapsWith e (some (.Name x pos2)) pos.line X.env = pure false) (hf : X.fn x = true ∨ X.env.scope.names.lookup x = some .local) :
    Sds X W H0 Oc Γ (.Assign [.Name x pos2] e pos :: rest) (.exc C ns ds (some Γ)) := fun Δ τ σ H D hl st w k => wpSs.of (pss_cons (ps_set hN hi hx pe_wp hs hf) pss_wp) (he Δ τ σ H _ hl w fun d H1 w1 => k d σ H1 w1)
theorem sds_exprX (he : Exx X W H0 Oc Γ e C ns ds) (hs : swapsWith e none pos.line X.env = pure false := by rfl) : Sds X W H0 Oc Γ (.Expr e pos :: rest) (.exc C ns ds (some Γ)) := fun Δ τ σ H D hl st w k =>
  wpSs.of (pss_cons (ps_expr pe_wp hs) pss_wp) (he Δ τ σ H _ hl w fun d H1 w1 => k d σ H1 w1)
theorem sds_retX (he : Exx X W H0 Oc Γ e C ns ds) : Sds X W H0 Oc Γ (.Return (some e) pos :: rest) (.exc C ns ds (some Γ)) := fun Δ τ σ H D hl st w k =>
  wpSs.of (pss_cons (ps_ret pe_wp) pss_wp) (he Δ τ σ H _ hl w fun d H1 w1 => k d σ H1 w1)
theorem Sds.low {st : List Stmt} {Γe : Option (List Sl)} (h : Sds X W H0 Oc Γ st (.exc C ns ds Γe)) : Sds X W H0 Oc Γ st (.exc C ns ds none) := fun Δ τ σ H D hl hst w k => h Δ τ σ H D hl hst w (by
  intro d σ' H' xw
  cases Γe with
  | none => exact k d σ' H' xw
  | some Γ2 => exact k d σ' H' (show Wf _ _ _ _ _ _ from Wf.only (show Wf X.K H0 Oc (.va (.xd ns ds) :: (Δ ++ Γ2)) (some (.ref d) :: (τ ++ σ')) H' from xw)))
/-! ### raise -/
theorem WfO.newXd {K : PySem.W.Frag} {O : List Addr} {G : List Sl} {S : List (Option V)} {H : Hp} {pp : Addr} {fs : List (Str × V)} (w : WfO K H0 Oc O G S H) (hp : H pp = none) (hn : fs.map (·.1) = ns) (h : Reps K (cut H O) ds (fs.map (·.2))) : WfO K H0 Oc O (.va (.xd ns ds) :: G) (some (.ref pp) :: S) (upd H pp (.xd fs)) := by
  have np : pp ∉ O := fun z => w.live pp z hp
  refine (w.grow (Ex.new hp)).push ⟨.ref pp, rfl, pp, fs, rfl, ?_, hn, Reps.mono (cut_mono (Ex.new hp)) h⟩ fun _ z => nomatch z
  rw [cut_out np]
  exact upd_same
theorem sds_raise1 {pos2 : Pos} (hc : X.calm = true) (tk : L2N.Takes X W) (T : Sup.Ex1 X.prog X.K X.mg x f C) (hr : Room 2 X.A) (hg : Gl X x) (he : Ev X H0 Oc Γ e (.va d))
    (hdb : (x == ("__debug__" : Str)) = false := by decide) (hst : starEach [e] X.env = (false, eval e X.env) :: starEach [] X.env := by rfl) (hpl : (backTo pos (starEach [] X.env)).any (·.1) = false := by rfl) :
    Sds X W H0 Oc Γ (.Raise (some (.Call (.Name x p) [e] [] pos)) none pos2 :: rest) (.exc C [f] [d] (some Γ)) := fun Δ τ σ H D hl st w k => by
  refine wpSs.of (pss_cons (L2N.ps_raise hc tk (Sup.pmk_1 T hr hg (pa_cons pe_wp pa_nil hst) hdb hst hpl)) pss_wp) ?_
  refine he Δ τ σ H _ hl w fun v H1 ⟨O, w1⟩ => ?_
  obtain ⟨v', e1, rv⟩ := w1.head
  cases e1
  exact ⟨v, rfl, fun dd nd => k dd σ _ ⟨O, w1.pop.newXd (ns := [f]) (ds := [d]) nd rfl ⟨v, [], rfl, rv, rfl⟩⟩⟩
theorem sds_raise2 {pos2 : Pos} (hc : X.calm = true) (tk : L2N.Takes X W) (T : Sup.Ex2 X.prog X.K X.mg x f g C) (hr : Room 2 X.A) (hg : Gl X x) (he : Ev X H0 Oc Γ a (.va d1)) (he2 : Ev X H0 Oc Γ b (.va d2))
    (hdb : (x == ("__debug__" : Str)) = false := by decide) (hst : starEach [a, b] X.env = (false, eval a X.env) :: starEach [b] X.env := by rfl) (hst2 : starEach [b] X.env = (false, eval b X.env) :: starEach [] X.env := by rfl) (hpl : (backTo pos (starEach [b] X.env)).any (·.1) = false := by rfl) :
    Sds X W H0 Oc Γ (.Raise (some (.Call (.Name x p) [a, b] [] pos)) none pos2 :: rest) (.exc C [g, f] [d2, d1] (some Γ)) := fun Δ τ σ H D hl st w k => by
  refine wpSs.of (pss_cons (L2N.ps_raise hc tk (Sup.pmk_2 T hr hg (pa_cons pe_wp (pa_cons pe_wp pa_nil hst2) hst) hdb hst hpl)) pss_wp) ?_
  refine he Δ τ σ H _ hl w fun v H1 w1 => ?_
  refine he2 (.va d1 :: Δ) (some v :: τ) σ H1 _ (by simp [hl]) w1 fun u H2 ⟨O, w2⟩ => ?_
  obtain ⟨u', e1, ru⟩ := w2.head
  cases e1
  obtain ⟨v', e1, rv⟩ := w2.pop.head
  cases e1
  exact ⟨v, u, rfl, fun dd nd => k dd σ _ ⟨O, w2.pop.pop.newXd (ns := [g, f]) (ds := [d2, d1]) nd rfl ⟨u, [v], rfl, ru, v, [], rfl, rv, rfl⟩⟩⟩
/-! ### try: body except x as n: suite -/
def wNo : WX := fun _ _ _ _ => False
def SuiteOk (X : Cx) (W : WX) (H0 : Hp) (Oc : List Addr) (n : Nat) (rest : List Stmt) (out : Out) : Out → Prop
  | .nx Γ2 => Sds X W H0 Oc (Γ2.set n .no) rest out
  | .ret s => out = .ret s
  | .brk Γ2 => out = .brk (Γ2.set n .no)
  | .cnt Γ2 => out = .cnt (Γ2.set n .no)
  | .exc _ _ _ _ => False
def TryOk (X : Cx) (W : WX) (H0 : Hp) (Oc : List Addr) (n : Nat) (c : Value) (suite rest : List Stmt) (out : Out) : Out → Prop
  | .nx Γ1 => Sds X W H0 Oc Γ1 rest out
  | .ret s => out = .ret s
  | .brk Γ1 => out = .brk Γ1
  | .cnt Γ1 => out = .cnt Γ1
  | .exc C ns ds (some Γe) => (PySem.W.exmOne X.K (.ref C) c = some true ∧ ∀ (a : Addr) (oe : Obj) (d : Addr) (pn : List (Addr × Obj)), L2N.Zn (.ref C) (some d) oe → (∃ vs, oe.data = .fields vs) →
      ∃ os, Sds (X.suite a ((a, oe) :: pn)) wNo H0 Oc (Γe.set n (.va (.er a C d ns ds))) suite os ∧ SuiteOk X W H0 Oc n rest out os) ∨ (PySem.W.exmOne X.K (.ref C) c = some false ∧ out = .exc C ns ds (some Γe))
  | .exc _ _ _ none => False
theorem sds_try {cv : Value} {b0 : Stmt} {suite : List Stmt} {np : Pos} {ob : Out} (hs : X.stack = X.env :: X.outer) (hf : X.env.frame = some X.env.locals) (hN : X.N.Nodup) (hi : X.N[n]? = some y) (hln : X.env.kindOf y = some .local) (hc : Names X x cv) (tk : L2N.Takes X W)
    (hb : ∀ (W' : WX) (pn : List (Addr × Obj)) (xe : Value → Shared → Prop), L2N.Takes (X.tr pn xe) W' → PassesOwn (model X.prog X.w) X.A X.env xe → Sds (X.tr pn xe) W' H0 Oc Γ body ob) (h : TryOk X W H0 Oc n cv (b0 :: suite) rest out ob) :
    Sds X W H0 Oc Γ (.Try body [.ExceptHandler (some (.Name x np)) (some y) (b0 :: suite) pos'] [] [] pos :: rest) out := fun Δ τ σ H D hl st w k => by
  refine wpSs.of (pss_cons (L2N.ps_try_as (tb := fun W' D σ H => ∀ (pn : List (Addr × Obj)) (xe : Value → Shared → Prop), L2N.Takes (X.tr pn xe) W' → PassesOwn (model X.prog X.w) X.A X.env xe → wpSs (X.tr pn xe) body D σ H)
    (ts := fun a cls d D σ H => ∀ (oe : Obj) (pn : List (Addr × Obj)), L2N.Zn cls d oe → (∃ vs, oe.data = .fields vs) → wpSs (X.suite a ((a, oe) :: pn)) (b0 :: suite) D σ H) hs hf hN hi hln hc tk
    (fun W' pn xe t po => ⟨fun pins s σ H D I h => h pn xe t po pins s I⟩) (fun a oe cls d pn z f => ⟨fun pins s σ H D I h => h oe pn z f pins s I⟩)) pss_wp) ?_
  intro pn xe t po
  refine hb _ pn xe t po Δ τ σ H _ hl st w ?_
  match ob, h with
  | .nx Γ1, h => exact fun σ' H' w' => h Δ τ σ' H' D hl st w' k
  | .ret s, h =>
    subst h
    exact k
  | .brk Γ1, h =>
    subst h
    exact k
  | .cnt Γ1, h =>
    subst h
    exact k
  | .exc C ns ds (some Γe), h =>
    intro d σ' H' xw
    have xw' : Wf X.K H0 Oc (.va (.xd ns ds) :: (Δ ++ Γe)) (some (.ref d) :: (τ ++ σ')) H' := xw
    rcases h with ⟨hm, h⟩ | ⟨hm, h⟩
    · refine ⟨true, hm, fun _ aa na => ?_, (fun z => nomatch z)⟩
      intro oe pn2 z f
      obtain ⟨os, h1, h2⟩ := h aa oe d pn2 z f
      obtain ⟨O, w1⟩ := xw'
      obtain ⟨v, e1, d', fs, e2, g2, g3, g4⟩ := w1.head
      cases e1
      cases e2
      have w2 := (w1.pop.push (s := .va (.er aa C d ns ds)) (y := some (.ref aa)) ⟨.ref aa, rfl, fs, rfl, g2, g3, g4⟩ fun _ z => nomatch z).set (n := n) hl
      refine h1 Δ τ _ H' _ hl st ⟨O, w2⟩ ?_
      match os, h2 with
      | .nx Γ2, h2 => exact fun σ4 H4 w4 => h2 Δ τ _ H4 D hl st (w4.unset hl) k
      | .ret s, h2 =>
        subst h2
        exact k
      | .brk Γ2, h2 =>
        subst h2
        exact fun σ4 H4 w4 => k _ H4 (w4.unset hl)
      | .cnt Γ2, h2 =>
        subst h2
        exact fun σ4 H4 w4 => k _ H4 (w4.unset hl)
    · refine ⟨false, hm, (fun z => nomatch z), fun _ => ?_⟩
      subst h
      exact k d σ' H' xw
/-! ### self.f = e -/
def D.own : D → Option (Addr × List Str × List D)
  | .obj C ns ds => some (C, ns, ds)
  | .slf _ C ns ds => some (C, ns, ds)
  | _ => none
def D.put : D → List Str → List D → D
  | .obj C _ _, ns, ds => .obj C ns ds
  | .slf q C _ _, ns, ds => .slf q C ns ds
  | d, _, _ => d
theorem RepH.own {K : PySem.W.Frag} {H : Hp} {a : Addr} {o : HO} (h : RepH K H d a o) (hd : d.own = some (C, ns, ds)) : ∃ dx fs, o = .ins C dx fs ∧ fs.map (·.1) = ns ∧ Reps K H ds (fs.map (·.2)) ∧ ∀ dx' fs', Reps K H ds1 (fs'.map (·.2)) → RepH K H (d.put (fs'.map (·.1)) ds1) a (.ins C dx' fs') := by
  cases d <;> first
    | (cases hd; done)
    | skip
  · cases hd
    cases o <;> first | exact h.elim | skip
    obtain ⟨rfl, h1, h2⟩ := h
    exact ⟨_, _, rfl, h1, h2, fun dx' fs' h3 => ⟨rfl, rfl, h3⟩⟩
  · cases hd
    cases o <;> first | exact h.elim | skip
    obtain ⟨⟨rfl, rfl⟩, h1, h2⟩ := h
    exact ⟨_, _, rfl, h1, h2, fun dx' fs' h3 => ⟨⟨rfl, rfl⟩, rfl, h3⟩⟩
theorem putF_new {v : V} : ∀ {fs : List (Str × V)}, f ∉ fs.map (·.1) → putF f v fs = fs ++ [(f, v)]
  | [], _ => rfl
  | (g, u) :: r, h => by
    unfold putF
    rw [if_neg fun z => h (by rw [← z]; exact List.mem_cons_self), putF_new fun z => h (List.mem_cons_of_mem _ z)]
    rfl
/-- a new field -/
theorem sds_fld {pp : Pos} (n : Nat) (h : Γ[n]? = some (.ow d)) (ho : d.own = some (C, ns, ds)) (hst : stab Γ = true) (cl : Cls X.K C) (na : NoAttr X.K C f) (hf : f ∉ ns) (hlen : ns.length < 1000) (he : Ev X H0 Oc Γ e (.va d1)) (hr : Sds X W H0 Oc (Γ.set n (.ow (d.put (ns ++ [f]) (ds ++ [d1])))) rest out)
    (hN : X.N[n]? = some x) (hv : Vis X.env.scope x) (hd : (x == ("__debug__" : Str)) = false) (hcd : (x == ("__classdict__" : Str)) = false)
    (hs : swapsWith e (some (.Attribute (.Name x p) f pp)) pos.line X.env = pure false := by rfl) : Sds X W H0 Oc Γ (.Assign [.Attribute (.Name x p) f pp] e pos :: rest) out := fun Δ τ σ H D hl st w k => by
  refine wpSs.of (pss_cons (ps_fld (pe_var hN hv hd hcd) pe_wp hs) pss_wp) ?_
  refine he Δ τ σ H _ hl w fun v H1 ⟨O, w1⟩ => ?_
  obtain ⟨yy, hy, pa, oo, rfl, g2, g3, g4, g5⟩ := slot_of hl w1.pop h
  obtain ⟨v', e1, rv⟩ := w1.head
  cases e1
  obtain ⟨dx, fs, rfl, q1, q2, q3⟩ := RepH.own (ds1 := ds ++ [d1]) g5 ho
  refine ⟨.ref pa, hy, pa, C, dx, fs, rfl, g4, cl, na, ?_, ?_⟩
  · have : fs.length = ns.length := by rw [← q1, List.length_map]
    omega
  · subst q1
    have q4 := q3 dx (fs ++ [(f, v)]) (by rw [List.map_append]; exact q2.app (Reps.one rv))
    rw [List.map_append] at q4
    rw [putF_new hf]
    exact hr Δ τ σ _ D hl st ⟨O, w1.pop.mutN hl st hst h hy q4⟩ k
/-! ### iteration over an own class -/
theorem ei_own {ad : Addr} (T : Own.IterAt X.K X.mg C ad f) (hr : Room 2 X.A) (he : Ev X H0 Oc Γ iter (.bw (.obj C ns ds1))) (hi : (ns.zip ds1).lookup f = some (.lst ds)) : Ei X H0 Oc Γ tg iter ds := ⟨_, Own.pi_own T hr pe_wp, fun Δ τ σ H R hl w k => he Δ τ σ H _ hl w fun v H1 ⟨O, w1⟩ => by
  obtain ⟨v', e1, r, dx, fs, rfl, h2, h3, h4⟩ := w1.head
  cases e1
  subst h3
  obtain ⟨z, hz, rz⟩ := h4.look hi
  obtain ⟨l, vs, rfl, g1, g2⟩ := id rz
  exact ⟨r, dx, fs, l, rfl, h2, hz, ⟨vs, .of (cut_ex _ _ g1)⟩, k _ [.va (.lst ds)] [some (.ref l)] H1 (fun _ _ => it_lst rfl) rfl ⟨O, w1.pop.push ⟨.ref l, rfl, rz⟩ fun _ z => nomatch z⟩⟩⟩
end
end Y

namespace Y
open PySem PySem.Spec PyProof.Rows L2
abbrev wx (E : XK) : WX := fun cls d _ H => E cls d H
/-- how a body's end is the call's -/
def Fin : Out → Out → Prop
  | .nx _, o => o = .ret (.va .non)
  | .ret s, o => o = .ret s
  | .exc C ns ds _, o => ∃ Γe, o = .exc C ns ds Γe
  | _, _ => False
def FinI (a C : Addr) : Out → Out → Prop
  | .nx Γ, o => ∃ ns ds, Γ[0]? = some (.ow (.slf a C ns ds)) ∧ o = .ret (.ow (.obj C ns ds))
  | .exc C ns ds _, o => ∃ Γe, o = .exc C ns ds Γe
  | _, _ => False
section
variable {K : PySem.W.Frag} {H0 H : Hp} {O Oc : List Addr} {G Γ : List Sl} {S : List (Option V)}
theorem WfO.pad (n : Nat) (w : WfO K H0 Oc O G S H) : WfO K H0 Oc O (G ++ List.replicate n .no) (S ++ List.replicate n none) H := by
  have no : ∀ i s, (G ++ List.replicate n Sl.no)[i]? = some s → G[i]? = some s ∧ i < G.length ∨ s = .no := fun i s h => by
    by_cases hi : i < G.length
    · rw [List.getElem?_append_left hi] at h
      exact .inl ⟨h, hi⟩
    · rw [List.getElem?_append_right (by omega), List.getElem?_replicate] at h
      split at h
      · exact .inr (Option.some.inj h).symm
      · cases h
  refine ⟨w.sub, w.new, w.old, w.live, w.ex, by simp [w.len], fun i s x h1 h2 => ?_, fun i j p d d' h1 h2 h3 h4 => ?_⟩
  · rcases no i s h1 with ⟨e, hi⟩ | e
    · rw [List.getElem?_append_left (by rw [w.len]; exact hi)] at h2
      exact w.ok i s x e h2
    · subst e
      trivial
  · rcases no i _ h1 with ⟨e, hi⟩ | e
    · rcases no j _ h3 with ⟨f, hj⟩ | f
      · rw [List.getElem?_append_left (by rw [w.len]; exact hi)] at h2
        rw [List.getElem?_append_left (by rw [w.len]; exact hj)] at h4
        exact w.nd i j p d d' e h2 f h4
      · cases f
    · cases e
/-- the object in the making, its address told -/
theorem WfO.slf {C : Addr} {ns : List Str} {ds : List D} {a : Addr} (w : WfO K H0 Oc O (.ow (.obj C ns ds) :: G) (some (.ref a) :: S) H) : WfO K H0 Oc O (.ow (.slf a C ns ds) :: G) (some (.ref a) :: S) H := by
  refine ⟨w.sub, w.new, w.old, w.live, w.ex, by simpa using w.len, fun i s x h1 h2 => ?_, fun i j p d d' h1 h2 h3 h4 => ?_⟩
  · cases i with
    | zero =>
      cases h1
      cases h2
      obtain ⟨p, o, e, h2, h3, h4, h5⟩ := w.head
      cases e
      refine ⟨a, o, rfl, h2, h3, h4, ?_⟩
      cases o <;> first | exact h5.elim | exact ⟨⟨h5.1, rfl⟩, h5.2⟩
    | succ i => exact w.ok (i + 1) s x h1 h2
  · have key : ∀ (k : Nat) (dd : D), (Sl.ow (.slf a C ns ds) :: G)[k]? = some (Sl.ow dd) → ∃ dd', (Sl.ow (.obj C ns ds) :: G)[k]? = some (Sl.ow dd') := fun k dd h => by
      cases k with
      | zero => exact ⟨_, rfl⟩
      | succ k => exact ⟨dd, h⟩
    obtain ⟨_, e⟩ := key i d h1
    obtain ⟨_, f⟩ := key j d' h3
    exact w.nd i j p _ _ e h2 f h4
theorem WfO.at0 {C : Addr} {ns : List Str} {ds : List D} {a : Addr} (w : WfO K H0 Oc O G S H) (h : G[0]? = some (.ow (.slf a C ns ds))) : Wf K H0 Oc [.ow (.obj C ns ds)] [some (.ref a)] H := by
  match G, S, h, w with
  | [], _, h, _ => cases h
  | _ :: G, [], h, w => exact absurd w.len (by simp)
  | s :: G, y :: S, h, w =>
    cases h
    obtain ⟨p, o, rfl, h2, h3, h4, h5⟩ := w.head
    obtain ⟨O', w'⟩ := (Wf.only ⟨O, w⟩ : Wf K H0 Oc [.ow (.slf a C ns ds)] [some (.ref p)] H)
    obtain ⟨p', o', e, k2, k3, k4, k5⟩ := w'.head
    cases e
    cases o' <;> first | exact k5.elim | skip
    obtain ⟨⟨rfl, rfl⟩, k6⟩ := k5
    refine ⟨O', w'.sub, w'.new, w'.old, w'.live, w'.ex, rfl, fun i s x h1 h2 => ?_, fun i j p d d' h1 h2 h3 h4 => ?_⟩
    · cases i with
      | zero =>
        cases h1
        cases h2
        exact ⟨_, _, rfl, k2, k3, k4, rfl, k6⟩
      | succ i => cases h1
    · cases i with
      | zero => cases j with
        | zero => rfl
        | succ j => cases h3
      | succ i => cases h1
end
section
variable {Pr : Program} {w : World} {K : PySem.W.Frag} {mg : Str → Option Value} {base : Heap}
/-- a def by its body's reading -/
theorem fn_sds {x qual : Str} {st : Stmt} {f : Addr} {fd : FuncData} {N ps : List Str} {k : Nat} {P : Pm} (F : Fun K x qual st f fd) (S : FnScope N ps (defScope st)) (hlen : ∀ Γ o, P Γ o → Γ.length = ps.length)
    (hb : ∀ (cdv : Value) (A : Around) (outer : List Env) (s : Shared) (H : Hp) (E : XK), Room k (A.deeper (envOfC qual (defScope st) s.heap.objs.size f cdv)) → ∀ (H0 : Hp) (Oc : List Addr) (Γ : List Sl) (o : Out), P Γ o →
      ∃ o', Sds (cxOf (L2N.CX Pr w) Pr w K mg base N qual (defScope st) f cdv A outer s H E) (wx E) H0 Oc (Γ ++ List.replicate (N.length - ps.length) .no) (defBody st) o' ∧ Fin o' o) :
    FnOk Pr w K mg base (L2N.CX Pr w) (k + 1) f fd ps (mkSp K P) := by
  obtain ⟨oc, od, kV, doc, pm, an, cdv, ct, osl, rfl, lk, hcd⟩ := F.ex
  have len : ∀ vs H Q E, mkSp K P vs H Q E → vs.length = ps.length := fun vs H Q E ⟨Oc, Γ, o, hp, ⟨O, w⟩, _⟩ => by
    rw [← hlen Γ o hp, ← w.len, List.length_map]
  refine fn_of lk hcd S len fun A outer s H vs Q E hr hsp => ?_
  have hl := len vs H Q E hsp
  obtain ⟨Oc, Γ, o, hp, ⟨O, w0⟩, sat⟩ := hsp
  obtain ⟨o', hS, fin⟩ := hb cdv A outer s H E hr H Oc Γ o hp
  refine ⟨wpSs _ _, pss_wp, hS [] [] (L2.start N vs) H _ rfl rfl ⟨O, ?_⟩ ?_⟩
  · unfold L2.start
    rw [← hl]
    exact w0.pad _
  · match o', fin with
    | .nx Γ', fin =>
      subst fin
      exact fun σ H' ⟨O', w'⟩ => sat .non H' (Wf.only ⟨O', w'.flat rfl (show Rep K H' .non .non from rfl)⟩)
    | .ret s', fin =>
      subst fin
      exact sat
    | .exc C ns ds Γe, fin =>
      obtain ⟨Γe', rfl⟩ := fin
      intro d σ H' xw
      refine sat d H' ?_
      cases Γe with
      | none => exact xw
      | some Γ2 => exact Wf.only (show Wf K H Oc (.va (.xd ns ds) :: ([] ++ Γ2)) (some (.ref d) :: ([] ++ σ)) H' from xw)
/-- an __init__ -/
theorem init_sds {x qual : Str} {st : Stmt} {f C : Addr} {fd : FuncData} {N ps : List Str} {k : Nat} {P : Pm} (F : Fun K x qual st f fd) (S : FnScope N ps (defScope st)) (hlen : ∀ Γ o, P Γ o → Γ.length + 1 = ps.length)
    (hb : ∀ (cdv : Value) (A : Around) (outer : List Env) (s : Shared) (H : Hp) (E : XK), Room k (A.deeper (envOfC qual (defScope st) s.heap.objs.size f cdv)) → ∀ (H0 : Hp) (Oc : List Addr) (Γ : List Sl) (o : Out) (a : Addr), P Γ o →
      ∃ o', Sds (cxOf (L2N.CX Pr w) Pr w K mg base N qual (defScope st) f cdv A outer s H E) (wx E) H0 Oc (.ow (.slf a C [] []) :: (Γ ++ List.replicate (N.length - ps.length) .no)) (defBody st) o' ∧ FinI a C o' o) :
    FnOk Pr w K mg base (L2N.CX Pr w) (k + 1) f fd ps (mkSpI K C P) := by
  obtain ⟨oc, od, kV, doc, pm, an, cdv, ct, osl, rfl, lk, hcd⟩ := F.ex
  have len : ∀ vs H Q E, mkSpI K C P vs H Q E → vs.length = ps.length := fun vs H Q E ⟨H0, Oc, Γ, o, self, us, hp, e, ⟨O, w⟩, _⟩ => by
    have := w.len
    rw [← hlen Γ o hp, ← List.length_map (f := some) (as := vs), this]
    rfl
  refine fn_of lk hcd S len fun A outer s H vs Q E hr hsp => ?_
  have hl := len vs H Q E hsp
  obtain ⟨H0, Oc, Γ, o, self, us, hp, rfl, ⟨O, w0⟩, sat⟩ := hsp
  obtain ⟨aa, oo, e, h2, h3, h4, h5⟩ := w0.head
  cases e
  obtain ⟨o', hS, fin⟩ := hb cdv A outer s H E hr H0 Oc Γ o aa hp
  refine ⟨wpSs _ _, pss_wp, hS [] [] (L2.start N _) H _ rfl rfl ⟨O, ?_⟩ ?_⟩
  · unfold L2.start
    rw [← hl]
    exact w0.slf.pad _
  · match o', fin with
    | .nx Γ', fin =>
      obtain ⟨ns, ds, e1, rfl⟩ := fin
      exact fun σ H' ⟨O', w'⟩ => sat H' (w'.at0 e1)
    | .exc C ns ds Γe, fin =>
      obtain ⟨Γe', rfl⟩ := fin
      intro d σ H' xw
      refine sat d H' ?_
      cases Γe with
      | none => exact xw
      | some Γ2 => exact Wf.only (show Wf K H0 Oc (.va (.xd ns ds) :: ([] ++ Γ2)) (some (.ref d) :: ([] ++ σ)) H' from xw)
end
end Y

namespace Y
open PySem L2
/-! ## the rules in short -/
section
variable {X : Cx} {W : WX} {H0 : Hp} {Oc : List Addr} {Γ Γ1 Γ' : List Sl} {e a b c o tg iter elt ie : Expr} {es ifs : List Expr} {rest body els : List Stmt} {s s0 s1 s2 : Sl} {ss : List Sl} {d d1 d2 : D} {ds ds1 ds2 : List D} {i j : Int} {pos pos' p2 p apos : Pos} {x y m f g : Str} {out o1 : Out} {q : Bool} {k : Nat} {C : Addr} {ns : List Str}
theorem vv (n : Nat) (h : Γ[n]? = some (.va d) := by rfl) (hN : X.N[n]? = some x := by rfl) (hv : Vis X.env.scope x := by first | exact .inl rfl | exact .inr (.inl rfl) | exact .inr (.inr rfl)) (hd : (x == ("__debug__" : Str)) = false := by rfl) (hcd : (x == ("__classdict__" : Str)) = false := by rfl) : Ev X H0 Oc Γ (.Name x pos) (.va d) :=
  ev_var n h (fun z => nomatch z) hN hv hd hcd
theorem vo (n : Nat) (h : Γ[n]? = some (.ow d) := by rfl) (hN : X.N[n]? = some x := by rfl) (hv : Vis X.env.scope x := by first | exact .inl rfl | exact .inr (.inl rfl) | exact .inr (.inr rfl)) (hd : (x == ("__debug__" : Str)) = false := by rfl) (hcd : (x == ("__classdict__" : Str)) = false := by rfl) : Ev X H0 Oc Γ (.Name x pos) (.bw d) :=
  ev_var n h (fun z => nomatch z) hN hv hd hcd
theorem vr (n : Nat) (h : Γ[n]? = some (.br d) := by rfl) (hN : X.N[n]? = some x := by rfl) (hv : Vis X.env.scope x := by first | exact .inl rfl | exact .inr (.inl rfl) | exact .inr (.inr rfl)) (hd : (x == ("__debug__" : Str)) = false := by rfl) (hcd : (x == ("__classdict__" : Str)) = false := by rfl) : Ev X H0 Oc Γ (.Name x pos) (.br d) :=
  ev_var n h (fun z => nomatch z) hN hv hd hcd
/-- any of them, read -/
theorem vb (n : Nat) (h : Γ[n]? = some s := by rfl) (hs : s.dat = some d := by rfl) (hN : X.N[n]? = some x := by rfl) (hv : Vis X.env.scope x := by first | exact .inl rfl | exact .inr (.inl rfl) | exact .inr (.inr rfl)) (hd : (x == ("__debug__" : Str)) = false := by rfl) (hcd : (x == ("__classdict__" : Str)) = false := by rfl) : Ev X H0 Oc Γ (.Name x pos) (.bw d) := by
  have := ev_var (H0 := H0) (Oc := Oc) (pos := pos) n h (fun z => by rw [z] at hs; exact nomatch hs) hN hv hd hcd
  cases s <;> first
    | (cases hs; done)
    | (cases hs; exact this.r)
    | (cases hs; exact this)
/-- self of an __init__ or method: an object -/
theorem slf_obj {K : PySem.W.Frag} {Ht H : Hp} {v : V} {aa : Addr} (h : RepB K Ht H (.slf aa C ns ds) v) : RepB K Ht H (.obj C ns ds) v := by
  obtain ⟨dx, fs, h1, h2, h3, h4⟩ := h
  exact ⟨aa, dx, fs, h1, h2, h3, h4⟩
theorem Ev.ob {aa : Addr} (h : Ev X H0 Oc Γ e (.bw (.slf aa C ns ds))) : Ev X H0 Oc Γ e (.bw (.obj C ns ds)) := fun Δ τ σ H Q hl W q => h Δ τ σ H Q hl W fun v H' ⟨O, W'⟩ => by
  obtain ⟨u, h1, h2⟩ := W'.head
  cases h1
  exact q v H' ⟨O, W'.pop.push ⟨v, rfl, slf_obj h2⟩ fun _ z => nomatch z⟩
theorem e_len {p : Pos} (hm : X.mg "len" = none) (ha : Ev X H0 Oc Γ a (.bw d)) (hd : seqD d = some ds := by rfl) (hg : Gl X "len" := by rfl) (he : starEach [a] X.env = (false, eval a X.env) :: starEach [] X.env := by rfl) (hpl : (backTo pos (starEach [] X.env)).any (·.1) = false := by rfl) :
    Ev X H0 Oc Γ (.Call (.Name "len" p) [a] [] pos) (.va (.int ds.length)) := ev_len ha hd hm hg he hpl
theorem e_list {p : Pos} (hm : X.mg "list" = none) (ha : Ev X H0 Oc Γ a (.bw d)) (hd : seqD d = some ds := by rfl) (hg : Gl X "list" := by rfl) (he : starEach [a] X.env = (false, eval a X.env) :: starEach [] X.env := by rfl) (hpl : (backTo pos (starEach [] X.env)).any (·.1) = false := by rfl) :
    Ev X H0 Oc Γ (.Call (.Name "list" p) [a] [] pos) (.ow (.lst ds)) := ev_list ha hd hm hg he hpl
theorem e_tupL {p : Pos} (hm : X.mg "tuple" = none) (ha : Ev X H0 Oc Γ a (.bw (.lst ds))) (hg : Gl X "tuple" := by rfl) (he : starEach [a] X.env = (false, eval a X.env) :: starEach [] X.env := by rfl) (hpl : (backTo pos (starEach [] X.env)).any (·.1) = false := by rfl) :
    Ev X H0 Oc Γ (.Call (.Name "tuple" p) [a] [] pos) (.va (.tup ds)) := ev_tupL ha hm hg he hpl
theorem e_tupT {p : Pos} (hm : X.mg "tuple" = none) (ha : Ev X H0 Oc Γ a (.va (.tup ds))) (hg : Gl X "tuple" := by rfl) (he : starEach [a] X.env = (false, eval a X.env) :: starEach [] X.env := by rfl) (hpl : (backTo pos (starEach [] X.env)).any (·.1) = false := by rfl) :
    Ev X H0 Oc Γ (.Call (.Name "tuple" p) [a] [] pos) (.va (.tup ds)) := ev_tupT ha hm hg he hpl
theorem e_int {p : Pos} (hm : X.mg "int" = none) (ha : Ev X H0 Oc Γ a (.va (.int i))) (hg : Gl X "int" := by rfl) (he : starEach [a] X.env = (false, eval a X.env) :: starEach [] X.env := by rfl) (hpl : (backTo pos (starEach [] X.env)).any (·.1) = false := by rfl) :
    Ev X H0 Oc Γ (.Call (.Name "int" p) [a] [] pos) (.va (.int i)) := ev_int1 ha hm hg he hpl
theorem e_isi {cv : V} {u t : Value} (hm : X.mg "isinstance" = none) (ha : Ev X H0 Oc Γ a (.bw d)) (hb : Ev X H0 Oc Γ b (.va (.opq cv))) (k : ClsV cv u) (ht : tyD d = some t) (hk : PySem.W.kitOne X.K t u = some q) (hc : ∀ C, t = .ref C → IsC X.K C := by exact fun _ z => nomatch z) (hg : Gl X "isinstance" := by rfl)
    (he : starEach [a, b] X.env = (false, eval a X.env) :: starEach [b] X.env := by rfl) (he2 : starEach [b] X.env = (false, eval b X.env) :: starEach [] X.env := by rfl) (hpl : (backTo pos (starEach [b] X.env)).any (·.1) = false := by rfl) : Ev X H0 Oc Γ (.Call (.Name "isinstance" p) [a, b] [] pos) (.va (.bl q)) := ev_isi ha hb k ht hk hm hc hg he he2 hpl
/-- isinstance(x, T), T a built-in type, x no instance of an own class -/
theorem kit_ty {K : PySem.W.Frag} {t c : String} {q : Bool} (h : PySem.W.kitOne [] (.type t) (.type c) = some q) : PySem.W.kitOne K (.type t) (.type c) = some q := by
  exact h
theorem e_isT {T t : String} (hm : X.mg "isinstance" = none) (hT : X.mg x = none) (ha : Ev X H0 Oc Γ a (.bw d)) (hv : bootBuiltins x = some (.type T)) (ht : tyD d = some (.type t)) (hk : PySem.W.kitOne [] (.type t) (.type T) = some q) (hgT : Gl X x := by rfl) (hg : Gl X "isinstance" := by rfl) (hn : x ≠ "__name__" := by decide) (hdb : (x == ("__debug__" : Str)) = false := by decide)
    (he : starEach [a, .Name x p2] X.env = (false, eval a X.env) :: starEach [.Name x p2] X.env := by rfl) (he2 : starEach [.Name x p2] X.env = (false, eval (.Name x p2) X.env) :: starEach [] X.env := by rfl) (hpl : (backTo pos (starEach [.Name x p2] X.env)).any (·.1) = false := by rfl) : Ev X H0 Oc Γ (.Call (.Name "isinstance" p) [a, .Name x p2] [] pos) (.va (.bl q)) :=
  ev_isi ha (ev_ty hgT hT hv hn hdb) (.ty T) ht (kit_ty hk) hm (fun _ z => nomatch z) hg he he2 hpl
theorem d_set {pos' : Pos} (n : Nat) (hN : X.N.Nodup) (he : Ev X H0 Oc Γ e s) (hr : Sds X W H0 Oc (Γ.set n s) rest out) (hi : X.N[n]? = some x := by rfl) (hx : Loc X.env.scope x := by first | exact .inl rfl | exact .inr rfl) (hs : swapsWith e (some (.Name x pos')) pos.line X.env = pure false := by rfl) (hf : X.fn x = true ∨ X.env.scope.names.lookup x = some .local := by first | exact .inr rfl | exact .inl rfl) :
    Sds X W H0 Oc Γ (.Assign [.Name x pos'] e pos :: rest) out := sds_set n he hr hN hi hx hs hf
theorem d_ret (he : Ev X H0 Oc Γ e (.va d)) (h : d = d1) : Sds X W H0 Oc Γ (.Return (some e) pos :: rest) (.ret (.va d1)) := h ▸ sds_ret he
theorem d_retO (he : Ev X H0 Oc Γ e (.ow d)) (h : d = d1) : Sds X W H0 Oc Γ (.Return (some e) pos :: rest) (.ret (.ow d1)) := h ▸ sds_ret he
theorem Ev.ii {i j : Int} (h : Ev X H0 Oc Γ e (.va (.int i))) (hd : i = j) : Ev X H0 Oc Γ e (.va (.int j)) := hd ▸ h
theorem Ev.bb {p q : Bool} (h : Ev X H0 Oc Γ e (.va (.bl p))) (hd : p = q) : Ev X H0 Oc Γ e (.va (.bl q)) := hd ▸ h
theorem Et.bb {p q : Bool} (h : Et X H0 Oc Γ e p) (hd : p = q) : Et X H0 Oc Γ e q := hd ▸ h
/-- if c: leave; rest -/
theorem d_ifx (hc : Et X H0 Oc Γ c q) (hx : out.exit = true) (h1 : q = true → Sds X W H0 Oc Γ body out) (h2 : q = false → Sds X W H0 Oc Γ rest out) : Sds X W H0 Oc Γ (.If c body [] pos :: rest) out := sds_ifx hc (fun z => ⟨h1 z, hx⟩) h2
theorem t_name {pos' : Pos} (n : Nat) (hN : X.N.Nodup) (hi : X.N[n]? = some x := by rfl) (hx : Loc X.env.scope x := by first | exact .inl rfl | exact .inr rfl) (hf : X.fn x = true ∨ X.env.scope.names.lookup x = some .local := by first | exact .inr rfl | exact .inl rfl) : Tg X H0 Oc (.Name x pos') Γ s (Γ.set n s) := tg_name n hN hi hx hf
theorem d_app {cpos epos : Pos} (n : Nat) (he : Ev X H0 Oc Γ e (.va d)) (hn : ds.length ≤ 1000000) (hr : Sds X W H0 Oc (Γ.set n (.ow (.lst (ds ++ [d])))) rest out) (h : Γ[n]? = some (.ow (.lst ds)) := by rfl) (hst : stab Γ = true := by rfl)
    (hN : X.N[n]? = some x := by rfl) (hv : Vis X.env.scope x := by first | exact .inl rfl | exact .inr (.inl rfl) | exact .inr (.inr rfl)) (hd : (x == ("__debug__" : Str)) = false := by rfl) (hcd : (x == ("__classdict__" : Str)) = false := by rfl)
    (hbase : attributeBase (.Name x p) "append" X.env (eval (.Name x p) X.env) = eval (.Name x p) X.env := by rfl)
    (hfew : ((backTo cpos (starEach [e] X.env)).all (fun x => !x.1) && (backToKw cpos (keywordEach [] X.env)).all (fun x => x.1.isSome)
      && decide (([e] : List Expr).length + ([] : List Keyword).length + (if ([] : List Keyword).isEmpty then 0 else 1) < 30)) = true := by rfl)
    (hline : (apos.endLine == cpos.line) = true := by rfl) (hs : starEach [e] X.env = (false, eval e X.env) :: starEach [] X.env := by rfl) (hplain : (backTo cpos (starEach [] X.env)).any (·.1) = false := by rfl)
    (hsw : swapsWith (.Call (.Attribute (.Name x p) "append" apos) [e] [] cpos) none epos.line X.env = pure false := by rfl) :
    Sds X W H0 Oc Γ (.Expr (.Call (.Attribute (.Name x p) "append" apos) [e] [] cpos) epos :: rest) out := sds_app n h hst he hn hr hN hv hd hcd hbase hfew hline hs hplain hsw
end
end Y

namespace Y
open PySem L2
/-! ## loops by their turns -/
def runE {α β ε : Type} (step : α → β → Except ε α) : α → List β → Except ε α
  | a, [] => .ok a
  | a, b :: bs => match step a b with
    | .ok a' => runE step a' bs
    | .error e => .error e
theorem runE_app {α β ε : Type} (step : α → β → Except ε α) : ∀ (a : α) (xs ys : List β), runE step a (xs ++ ys) = match runE step a xs with | .ok a' => runE step a' ys | .error e => .error e
  | a, [], ys => rfl
  | a, b :: bs, ys => by
    show (match step a b with | .ok a' => runE step a' (bs ++ ys) | .error e => .error e) = match (match step a b with | .ok a' => runE step a' bs | .error e => .error e) with | .ok a' => runE step a' ys | .error e => .error e
    cases step a b with
    | ok a' => exact runE_app step a' bs ys
    | error e => rfl
section
variable {X : Cx} {W : WX} {H0 : Hp} {Oc : List Addr} {Γ Γ1 Γ' : List Sl} {e a b c o tg iter elt ie : Expr} {es ifs : List Expr} {rest body els : List Stmt} {pos : Pos} {out : Out}
/-- how a turn's end fits the step -/
def StepOk (X : Cx) (W : WX) (H0 : Hp) (Oc : List Addr) (rest : List Stmt) (out : Out) {α : Type} (GG : α → List Sl) (ob : Out) : Except Out α → Prop
  | .ok st => (∃ Γ2, ob = .nx Γ2 ∧ Sub Γ2 (GG st)) ∨ (∃ Γ2, ob = .cnt Γ2 ∧ Sub Γ2 (GG st))
  | .error r => ob = r ∧ ((∃ s, r = .ret s) ∨ (∃ C ns ds Γe, r = .exc C ns ds Γe) ∨ ∃ Γ2, r = .brk Γ2)
def Behind (X : Cx) (W : WX) (H0 : Hp) (Oc : List Addr) (rest : List Stmt) (out : Out) {α : Type} (GG : α → List Sl) : Except Out α → Prop
  | .ok st => Sds X W H0 Oc (GG st) rest out
  | .error (.brk Γ2) => Sds X W H0 Oc Γ2 rest out
  | .error r => out = r
theorem d_for {α β : Type} (xs : List β) (enc : β → D) (step : α → β → Except Out α) (a0 : α) (GG : α → List Sl) (hp : PassesOwn (model X.prog X.w) X.A X.env X.xe) (hc : X.calm = true) (hi : Ei X H0 Oc Γ tg iter (xs.map enc)) (h0 : Sub Γ (GG a0))
    (hb : ∀ st b pre post, xs = pre ++ b :: post → runE step a0 pre = .ok st → ∃ Γ1 ob, Tg X H0 Oc tg (GG st) (.va (enc b)) Γ1 ∧ Sds X W H0 Oc Γ1 body ob ∧ StepOk X W H0 Oc rest out GG ob (step st b))
    (hr : Behind X W H0 Oc rest out GG (runE step a0 xs))
    (hs : ∀ x, foldedSetIterable iter X.env x = pure x := by intro _; rfl) : Sds X W H0 Oc Γ (.For tg iter body [] pos :: rest) out := by
  let G : Nat → List Sl := fun i => match runE step a0 (xs.take i) with | .ok st => GG st | .error _ => []
  refine sds_for G (fun i => ∃ st, runE step a0 (xs.take i) = .ok st) hp hc hi (by show Sub Γ (match runE step a0 (xs.take 0) with | .ok st => GG st | .error _ => []); rw [List.take_zero]; exact h0) ⟨a0, by rw [List.take_zero]; rfl⟩ ?_ ?_ hs
  · rintro i d hd ⟨st, hst⟩
    rw [List.getElem?_map] at hd
    cases hx : xs[i]? with
    | none => rw [hx] at hd; cases hd
    | some b =>
      rw [hx] at hd
      have hd' := Option.some.inj hd
      subst hd'
      have hi : i < xs.length := (List.getElem?_eq_some_iff.mp hx).1
      have hsp : xs = xs.take i ++ b :: xs.drop (i + 1) := by
        have e : xs.drop i = b :: xs.drop (i + 1) := by
          rw [List.drop_eq_getElem_cons hi]
          congr 1
          exact (List.getElem?_eq_some_iff.mp hx).2
        rw [← e, List.take_append_drop]
      obtain ⟨Γ1, ob, t1, t2, t3⟩ := hb st b _ _ hsp hst
      have eG : G i = GG st := by show (match runE step a0 (xs.take i) with | .ok st => GG st | .error _ => []) = _; rw [hst]
      refine ⟨Γ1, ob, eG ▸ t1, t2, ?_⟩
      have nxt : runE step a0 (xs.take (i + 1)) = match step st b with | .ok a' => .ok a' | .error e => .error e := by
        rw [List.take_add_one, hx, runE_app, hst]
        simp only [Option.toList, runE]
        cases step st b <;> rfl
      have all : ∀ r, step st b = .error r → runE step a0 xs = .error r := fun r hr' => by
        rw [hsp, runE_app, hst]
        simp only [runE, hr']
      cases hstep : step st b with
      | ok st' =>
        rw [hstep] at t3 nxt
        have eG' : G (i + 1) = GG st' := by show (match runE step a0 (xs.take (i + 1)) with | .ok st => GG st | .error _ => []) = _; rw [nxt]
        rcases t3 with ⟨Γ2, rfl, hsub⟩ | ⟨Γ2, rfl, hsub⟩
        · exact ⟨eG' ▸ hsub, st', nxt⟩
        · exact ⟨eG' ▸ hsub, st', nxt⟩
      | error r =>
        rw [hstep] at t3
        rw [all r hstep] at hr
        obtain ⟨rfl, hr'⟩ := t3
        rcases hr' with ⟨s, rfl⟩ | ⟨C, ns, ds, Γe, rfl⟩ | ⟨Γ2, rfl⟩
        · exact Eq.symm hr
        · exact Eq.symm hr
        · exact hr
  · rintro ⟨st, hst⟩
    rw [List.length_map] at hst ⊢
    rw [List.take_length] at hst
    have eG : G xs.length = GG st := by show (match runE step a0 (xs.take xs.length) with | .ok st => GG st | .error _ => []) = _; rw [List.take_length, hst]
    rw [eG]
    rw [hst] at hr
    exact hr
theorem runE_ok {α β ε : Type} (step : α → β → α) : ∀ (a : α) (xs : List β), runE (ε := ε) (fun a b => .ok (step a b)) a xs = .ok (xs.foldl step a)
  | _, [] => rfl
  | a, b :: bs => by
    simp only [runE, List.foldl]
    exact runE_ok step (step a b) bs
theorem d_forP {α β : Type} (xs : List β) (enc : β → D) (step : α → β → α) (a0 : α) (GG : α → List Sl) (hp : PassesOwn (model X.prog X.w) X.A X.env X.xe) (hc : X.calm = true) (hi : Ei X H0 Oc Γ tg iter (xs.map enc)) (h0 : Sub Γ (GG a0))
    (hb : ∀ st b pre post, xs = pre ++ b :: post → st = pre.foldl step a0 → ∃ Γ1 Γ2, Tg X H0 Oc tg (GG st) (.va (enc b)) Γ1 ∧ Sds X W H0 Oc Γ1 body (.nx Γ2) ∧ Sub Γ2 (GG (step st b)))
    (hr : Sds X W H0 Oc (GG (xs.foldl step a0)) rest out)
    (hs : ∀ x, foldedSetIterable iter X.env x = pure x := by intro _; rfl) : Sds X W H0 Oc Γ (.For tg iter body [] pos :: rest) out :=
  d_for xs enc (fun a b => .ok (step a b)) a0 GG hp hc hi h0 (fun st b pre post h1 h2 => by
    rw [runE_ok] at h2
    obtain ⟨Γ1, Γ2, h3, h4, h5⟩ := hb st b pre post h1 (Except.ok.inj h2).symm
    exact ⟨Γ1, _, h3, h4, .inl ⟨Γ2, rfl, h5⟩⟩) (by rw [runE_ok]; exact hr) hs
/-- 10 ** 18 -/
theorem e_1018 {k1 k2 : Nat} {p1 p2 : Pos} {pos : Pos} : Ev X H0 Oc Γ (.BinOp (.Constant (.int 10) k1 p1) .Pow (.Constant (.int 18) k2 p2) pos) (.va (.int 1000000000000000000)) :=
  (ev_pow ev_int ev_int ⟨by decide, by decide, by decide⟩).ii rfl
/-- one slot alone -/
theorem WfO.pick {K : PySem.W.Frag} {H : Hp} {O : List Addr} {G : List Sl} {S : List (Option V)} {i : Nat} {s : Sl} {y : Option V} (w : WfO K H0 Oc O G S H) (h1 : G[i]? = some s) (h2 : S[i]? = some y) : WfO K H0 Oc O [s] [y] H := by
  refine ⟨w.sub, w.new, w.old, w.live, w.ex, rfl, fun j s' x h3 h4 => ?_, fun j k p d d' h3 h4 h5 h6 => ?_⟩
  · cases j with
    | zero =>
      cases h3
      cases h4
      exact w.ok i _ _ h1 h2
    | succ j => cases h3
  · cases j with
    | zero => cases k with
      | zero => rfl
      | succ k => cases h5
    | succ j => cases h3
/-- return x, x one's own -/
theorem d_retV {x : Str} {d d1 : D} {p : Pos} (n : Nat) (he : d = d1) (h : Γ[n]? = some (.ow d) := by rfl) (hN : X.N[n]? = some x := by rfl) (hv : Vis X.env.scope x := by first | exact .inl rfl | exact .inr (.inl rfl) | exact .inr (.inr rfl)) (hd : (x == ("__debug__" : Str)) = false := by rfl) (hcd : (x == ("__classdict__" : Str)) = false := by rfl) :
    Sds X W H0 Oc Γ (.Return (some (.Name x p)) pos :: rest) (.ret (.ow d1)) := fun Δ τ σ H D hl st ⟨O, w⟩ k => by
  subst he
  refine wpSs.of (pss_cons (ps_ret (pe_var hN hv hd hcd)) pss_wp) ?_
  obtain ⟨y, hy, pp, oo, rfl, g2, g3, g4, g5⟩ := slot_of hl w h
  obtain ⟨h1, h2⟩ := len_app (σ := σ) hl h
  exact ⟨.ref pp, hy, k _ H ⟨O, w.pick h1 (h2.trans hy)⟩⟩
theorem Sub.eqc {s s' : Sl} {G G' : List Sl} (e : s = s') (h : Sub G G') : Sub (s :: G) (s' :: G') := e ▸ .eq h
end
/-- a list grown by one -/
theorem lst1 {α : Type} (f : α → D) (xs : List α) (a : α) : Sl.ow (.lst (xs.map f ++ [f a])) = .ow (.lst ((xs ++ [a]).map f)) := by rw [List.map_append] <;> rfl
theorem atI_map {α : Type} {f : α → D} {xs : List α} {k : Nat} {a : α} (h : xs[k]? = some a) : L2.atI (xs.map f) (k : Int) = some (f a) := L2.atI_nat (by rw [List.getElem?_map, h]; rfl)
end Y

namespace Y
open PySem L2
section
variable {X : Cx} {W : WX} {H0 : Hp} {Oc : List Addr} {Γ Γ1 Γ' : List Sl} {e a b c o tg iter elt ie t1 : Expr} {es ifs : List Expr} {rest body els : List Stmt} {pos pos' p : Pos} {out : Out} {scope : Scope} {own : List (Str × Nat)} {y : Str}
/-- [g for x in xs] -/
theorem e_lc {α : Type} (xs : List α) (enc : α → D) (g : α → D) (Γe : α → List Sl) (hc : X.calm = true) (hN : X.N.Nodup) (ok : BlkOk X.N X.env.scope scope own) (hi : Ei X H0 Oc Γ tg iter (xs.map enc)) (hn : xs.length ≤ 1000000)
    (ht : ∀ x ∈ xs, ∀ H0' Oc' s0 H00 C cl fp, Tgw (blkX X scope s0 H00 C cl fp) H0' Oc' (own.map (·.2)) tg (wipeG (Γ.map Sl.arg) (own.map (·.2))) (.va (enc x)) (Γe x))
    (hst : ∀ x ∈ xs, stab (Γe x) = true ∧ Sub (wipeG (Γe x) (own.map (·.2))) (wipeG (Γ.map Sl.arg) (own.map (·.2))))
    (he : ∀ x ∈ xs, ∀ H0' Oc' s0 H00 C cl fp, Ev (blkX X scope s0 H00 C cl fp) H0' Oc' (Γe x) elt (.va (g x)))
    (hs : ∀ x, foldedSetIterable iter X.env x = pure x := by intro _; rfl) : Ev X H0 Oc Γ (.ListComp elt [⟨tg, iter, [], 0⟩] scope pos) (.ow (.lst (xs.map g))) := by
  have := ev_lc (ifs := []) (elt := elt) (iter := iter) (scope := scope) (pos := pos) xs enc (fun _ => true) g Γe hc hN ok hi hn ht hst (fun _ _ _ _ _ _ _ _ _ => rfl) (fun x hx _ => he x hx) hs
  rwa [List.filter_eq_self.mpr fun _ _ => rfl] at this
/-- [g for x in xs if pr] -/
theorem e_lcf {α : Type} (xs : List α) (enc : α → D) (pr : α → Bool) (g : α → D) (Γe : α → List Sl) (hc : X.calm = true) (hN : X.N.Nodup) (ok : BlkOk X.N X.env.scope scope own) (hi : Ei X H0 Oc Γ tg iter (xs.map enc)) (hn : xs.length ≤ 1000000)
    (ht : ∀ x ∈ xs, ∀ H0' Oc' s0 H00 C cl fp, Tgw (blkX X scope s0 H00 C cl fp) H0' Oc' (own.map (·.2)) tg (wipeG (Γ.map Sl.arg) (own.map (·.2))) (.va (enc x)) (Γe x))
    (hst : ∀ x ∈ xs, stab (Γe x) = true ∧ Sub (wipeG (Γe x) (own.map (·.2))) (wipeG (Γ.map Sl.arg) (own.map (·.2))))
    (hp : ∀ x ∈ xs, ∀ H0' Oc' s0 H00 C cl fp, Et (blkX X scope s0 H00 C cl fp) H0' Oc' (Γe x) t1 (pr x))
    (he : ∀ x ∈ xs, pr x = true → ∀ H0' Oc' s0 H00 C cl fp, Ev (blkX X scope s0 H00 C cl fp) H0' Oc' (Γe x) elt (.va (g x)))
    (hs : ∀ x, foldedSetIterable iter X.env x = pure x := by intro _; rfl) : Ev X H0 Oc Γ (.ListComp elt [⟨tg, iter, [t1], 0⟩] scope pos) (.ow (.lst ((xs.filter pr).map g))) :=
  ev_lc (ifs := [t1]) (elt := elt) (iter := iter) (scope := scope) (pos := pos) xs enc pr g Γe hc hN ok hi hn ht hst hp he hs
theorem d_setLc {α : Type} (n : Nat) (xs : List α) (enc : α → D) (g : α → D) (Γe : α → List Sl) (hc : X.calm = true) (hN : X.N.Nodup) (ok : BlkOk X.N X.env.scope scope own) (hi : Ei X H0 Oc Γ tg iter (xs.map enc)) (hn : xs.length ≤ 1000000)
    (ht : ∀ x ∈ xs, ∀ H0' Oc' s0 H00 C cl fp, Tgw (blkX X scope s0 H00 C cl fp) H0' Oc' (own.map (·.2)) tg (wipeG (Γ.map Sl.arg) (own.map (·.2))) (.va (enc x)) (Γe x))
    (hst : ∀ x ∈ xs, stab (Γe x) = true ∧ Sub (wipeG (Γe x) (own.map (·.2))) (wipeG (Γ.map Sl.arg) (own.map (·.2))))
    (he : ∀ x ∈ xs, ∀ H0' Oc' s0 H00 C cl fp, Ev (blkX X scope s0 H00 C cl fp) H0' Oc' (Γe x) elt (.va (g x)))
    (hr : Sds X W H0 Oc (Γ.set n (.ow (.lst (xs.map g)))) rest out)
    (hy : X.N[n]? = some y := by rfl) (hyl : X.env.scope.names.lookup y = some .local := by rfl) (hk : X.env.scope.kind = .function := by rfl) (hln : (p.line == pos.line) = true := by rfl)
    (han : (scope.names.any fun (m, k) => m == y && (k == .local || k == .cell)) = false := by rfl)
    (hs : ∀ x, foldedSetIterable iter X.env x = pure x := by intro _; rfl) : Sds X W H0 Oc Γ (.Assign [.Name y p] (.ListComp elt [⟨tg, iter, [], 0⟩] scope pos) pos' :: rest) out :=
  sds_setLc (ifs := []) (elt := elt) (iter := iter) (scope := scope) n xs enc (fun _ => true) g Γe hc hN ok hi hn ht hst (fun _ _ _ _ _ _ _ _ _ => rfl) (fun x hx _ => he x hx) (by rwa [List.filter_eq_self.mpr fun _ _ => rfl]) hy hyl hk hln han hs
theorem d_setLcf {α : Type} (n : Nat) (xs : List α) (enc : α → D) (pr : α → Bool) (g : α → D) (Γe : α → List Sl) (hc : X.calm = true) (hN : X.N.Nodup) (ok : BlkOk X.N X.env.scope scope own) (hi : Ei X H0 Oc Γ tg iter (xs.map enc)) (hn : xs.length ≤ 1000000)
    (ht : ∀ x ∈ xs, ∀ H0' Oc' s0 H00 C cl fp, Tgw (blkX X scope s0 H00 C cl fp) H0' Oc' (own.map (·.2)) tg (wipeG (Γ.map Sl.arg) (own.map (·.2))) (.va (enc x)) (Γe x))
    (hst : ∀ x ∈ xs, stab (Γe x) = true ∧ Sub (wipeG (Γe x) (own.map (·.2))) (wipeG (Γ.map Sl.arg) (own.map (·.2))))
    (hp : ∀ x ∈ xs, ∀ H0' Oc' s0 H00 C cl fp, Et (blkX X scope s0 H00 C cl fp) H0' Oc' (Γe x) t1 (pr x))
    (he : ∀ x ∈ xs, pr x = true → ∀ H0' Oc' s0 H00 C cl fp, Ev (blkX X scope s0 H00 C cl fp) H0' Oc' (Γe x) elt (.va (g x)))
    (hr : Sds X W H0 Oc (Γ.set n (.ow (.lst ((xs.filter pr).map g)))) rest out)
    (hy : X.N[n]? = some y := by rfl) (hyl : X.env.scope.names.lookup y = some .local := by rfl) (hk : X.env.scope.kind = .function := by rfl) (hln : (p.line == pos.line) = true := by rfl)
    (han : (scope.names.any fun (m, k) => m == y && (k == .local || k == .cell)) = false := by rfl)
    (hs : ∀ x, foldedSetIterable iter X.env x = pure x := by intro _; rfl) : Sds X W H0 Oc Γ (.Assign [.Name y p] (.ListComp elt [⟨tg, iter, [t1], 0⟩] scope pos) pos' :: rest) out :=
  sds_setLc (ifs := [t1]) (elt := elt) (iter := iter) (scope := scope) n xs enc pr g Γe hc hN ok hi hn ht hst hp he hr hy hyl hk hln han hs
theorem tw_name {vs : List Nat} {x : Str} {s : Sl} (n : Nat) (hN : X.N.Nodup) (hi : X.N[n]? = some x := by rfl) (hx : Loc X.env.scope x := by first | exact .inl rfl | exact .inr rfl) (hf : X.fn x = true ∨ X.env.scope.names.lookup x = some .local := by first | exact .inr rfl | exact .inl rfl) (hv : n ∈ vs := by simp) : Tgw X H0 Oc vs (.Name x pos') Γ s (Γ.set n s) :=
  tgw_name n hN hi hx hf hv
/-- range(n), n a natural number, as a list of naturals -/
theorem i_rng {j : Nat} (hm : X.mg "range" = none) (ha : Ev X H0 Oc Γ a (.va (.int (j : Int)))) (h2 : j ≤ 1000000000) (hg : Gl X "range" := by rfl) (hs : starEach [a] X.env = [(false, eval a X.env)] := by rfl) (hs' : starEach [a] X.env = (false, eval a X.env) :: starEach [] X.env := by rfl) :
    Ei X H0 Oc Γ tg (.Call (.Name "range" p) [a] [] pos) ((List.range j).map fun k : Nat => D.int k) :=
  (ei_rng1 ha (by omega) (by omega) hm hg hs hs').as (by
    unfold rngD
    rw [show ((j : Int).toNat) = j from rfl]
    exact List.map_congr_left fun k _ => by rw [Int.zero_add])
end
theorem rep_ints (n : Nat) (v : Int) : (List.replicate n [D.int v]).flatten = (List.replicate n v).map .int := by
  induction n with
  | zero => rfl
  | succ n ih => rw [List.replicate_succ, List.flatten_cons, ih, List.replicate_succ]; rfl
theorem cutD_nat {α : Type} (xs : List α) (a b : Nat) : Y.cutD xs (some (a : Int)) (some (b : Int)) = (xs.take b).drop a := by
  unfold Y.cutD
  rw [HT.sIx_nat, HT.sIx_nat]
  apply List.ext_getElem?
  intro i
  rw [List.getElem?_drop, List.getElem?_take, List.getElem?_take, List.getElem?_drop]
  by_cases h : a + i < xs.length
  · have e : min a xs.length = a := by omega
    rw [e]
    by_cases hb : a + i < b
    · rw [if_pos (by omega), if_pos hb]
    · rw [if_neg (by omega), if_neg hb]
  · rw [List.getElem?_eq_none (by omega : xs.length ≤ a + i)]
    by_cases hA : i < min b xs.length - min a xs.length
    · rw [if_pos hA, List.getElem?_eq_none (by omega)]
      split <;> rfl
    · rw [if_neg hA]
      split <;> rfl
theorem cutD_from {α : Type} (xs : List α) (a : Nat) : Y.cutD xs (some (a : Int)) none = xs.drop a := by
  unfold Y.cutD
  rw [HT.sIx_nat, HT.sIx_none]
  by_cases h : a ≤ xs.length
  · rw [Nat.min_eq_left h, List.take_of_length_le (by rw [List.length_drop]; exact Nat.le_refl _)]
  · rw [Nat.min_eq_right (by omega), List.drop_of_length_le (by omega : xs.length ≤ a), List.drop_length]
    exact List.take_nil
theorem cutD_upto {α : Type} (xs : List α) (b : Nat) : Y.cutD xs none (some (b : Int)) = xs.take b := by
  unfold Y.cutD
  rw [HT.sIx_nat, HT.sIx_none]
  by_cases h : b ≤ xs.length
  · rw [Nat.min_eq_left h]; rfl
  · rw [Nat.min_eq_right (by omega), List.take_of_length_le (by omega : xs.length ≤ b)]
    exact List.take_of_length_le (Nat.le_refl _)
theorem cutD_butLast {α : Type} (xs : List α) : Y.cutD xs none (some (-1)) = xs.dropLast := by
  unfold Y.cutD
  rw [HT.sIx_none, List.dropLast_eq_take]
  have e : HT.sIx xs.length xs.length (some (-1)) = xs.length - 1 := by
    show (if (-1 : Int) < 0 then (-1 + (xs.length : Int)).toNat else min (-1 : Int).toNat xs.length) = _
    rw [if_pos (by decide)]
    omega
  rw [e]
  rfl
/-- enumerate -/
def enumF {α : Type} : Nat → List α → List (Nat × α)
  | _, [] => []
  | i, x :: xs => (i, x) :: enumF (i + 1) xs
theorem enumF_get {α : Type} : ∀ (k : Nat) (xs : List α) (i : Nat), (enumF k xs)[i]? = xs[i]?.map fun x => (k + i, x)
  | _, [], _ => by simp [enumF]
  | k, x :: xs, 0 => by simp [enumF]
  | k, x :: xs, i + 1 => by
    show (enumF (k + 1) xs)[i]? = xs[i]?.map _
    rw [enumF_get (k + 1) xs i]
    congr 1
    funext x
    congr 1
    omega
theorem enumF_len {α : Type} : ∀ (k : Nat) (xs : List α), (enumF k xs).length = xs.length
  | _, [] => rfl
  | k, x :: xs => congrArg Nat.succ (enumF_len (k + 1) xs)
theorem enumD_map {α : Type} (enc : α → D) (xs : List α) : enumD (xs.map enc) = (enumF 0 xs).map fun p => .tup [.int (p.1 : Int), enc p.2] := by
  apply List.ext_getElem?
  intro i
  rw [List.getElem?_map, enumF_get]
  cases e : xs[i]? with
  | none =>
    have : (xs.map enc).length ≤ i := by rw [List.length_map]; exact List.getElem?_eq_none_iff.mp e
    rw [List.getElem?_eq_none (by rw [enumD_len]; exact this)]
    rfl
  | some x =>
    rw [enumD_get (d := enc x) (by rw [List.getElem?_map, e]; rfl)]
    simp
section
variable {X : Cx} {W : WX} {H0 : Hp} {Oc : List Addr} {Γ : List Sl} {a : Expr} {p pos : Pos} {s : Sl}
theorem i_enum {α : Type} (enc : α → D) (xs : List α) {elts : List Expr} {kk : Nat} {tpos : Pos} (hm : X.mg "enumerate" = none) (ha : Ev X H0 Oc Γ a s) (hs : s.held = some (.lst (xs.map enc)) := by rfl) (hg : Gl X "enumerate" := by rfl) (hst : starEach [a] X.env = [(false, eval a X.env)] := by rfl) (hst' : starEach [a] X.env = (false, eval a X.env) :: starEach [] X.env := by rfl) :
    Ei X H0 Oc Γ (.Tuple elts kk tpos) (.Call (.Name "enumerate" p) [a] [] pos) ((enumF 0 xs).map fun p => .tup [.int (p.1 : Int), enc p.2]) :=
  (ei_enum ha hs hm hg hst hst').as (enumD_map enc xs)
theorem t_two {x z : Str} {p2 p3 : Pos} {kk : Nat} {d1 d2 : D} (n1 n2 : Nat) (hc : X.calm = true) (hN : X.N.Nodup) (h1 : X.N[n1]? = some x := by rfl) (h2 : X.N[n2]? = some z := by rfl) (hx : Loc X.env.scope x := by first | exact .inl rfl | exact .inr rfl) (hz : Loc X.env.scope z := by first | exact .inl rfl | exact .inr rfl) (hf : X.fn x = true ∨ X.env.scope.names.lookup x = some .local := by first | exact .inr rfl | exact .inl rfl) (hg : X.fn z = true ∨ X.env.scope.names.lookup z = some .local := by first | exact .inr rfl | exact .inl rfl) :
    Tg X H0 Oc (.Tuple [.Name x p, .Name z p2] kk p3) Γ (.va (.tup [d1, d2])) ((Γ.set n1 (.va d1)).set n2 (.va d2)) := tg_tup2 n1 n2 hc hN h1 h2 hx hz hf hg
theorem t_seq {a : Expr} {d : D} {ds : List D} (ha : Ev X H0 Oc Γ a (.bw d)) (hd : seqD d = some ds := by rfl) (he : ∀ whole, isTrue a X.env whole = (do let v ← whole; standAt a.pos; holding [v] (truthy v)) := by intro _; rfl) : Et X H0 Oc Γ a (!ds.isEmpty) := et_seq ha hd he
/-- self.f = e -/
theorem d_fld {W : WX} {e : Expr} {d d1 : D} {C : Addr} {ns : List Str} {ds : List D} {f x : Str} {rest : List Stmt} {out : Out} {pp : Pos} (n : Nat) (cl : Cls X.K C) (na : NoAttr X.K C f) (he : Ev X H0 Oc Γ e (.va d1)) (hr : Sds X W H0 Oc (Γ.set n (.ow (d.put (ns ++ [f]) (ds ++ [d1])))) rest out)
    (h : Γ[n]? = some (.ow d) := by rfl) (ho : d.own = some (C, ns, ds) := by rfl) (hst : stab Γ = true := by rfl) (hf : f ∉ ns := by decide) (hlen : ns.length < 1000 := by decide)
    (hN : X.N[n]? = some x := by rfl) (hv : Vis X.env.scope x := by first | exact .inl rfl | exact .inr (.inl rfl) | exact .inr (.inr rfl)) (hd : (x == ("__debug__" : Str)) = false := by rfl) (hcd : (x == ("__classdict__" : Str)) = false := by rfl)
    (hs : swapsWith e (some (.Attribute (.Name x p) f pp)) pos.line X.env = pure false := by rfl) : Sds X W H0 Oc Γ (.Assign [.Attribute (.Name x p) f pp] e pos :: rest) out := sds_fld n h ho hst cl na hf hlen he hr hN hv hd hcd hs
end
end Y

namespace Y
open PySem L2
/-! ## comparable data -/
def okN (n : Nat) (d : D) : Prop := isPy d = true ∧ (py d).canLay0 = true ∧ (py d).depth ≤ n
def okNs (n : Nat) (ds : List D) : Prop := isPys ds = true ∧ PyData.canLayAll0 (pys ds) = true ∧ PyData.depthAll (pys ds) ≤ n
theorem okN.ok {n : Nat} {d : D} (h : okN n d) (hn : n ≤ 64) : okD d = true := by
  unfold okD SeqAt.shaped
  rw [h.1, h.2.1, decide_eq_true (Nat.le_trans h.2.2 hn)] <;> rfl
theorem okN_int {n : Nat} {i : Int} : okN n (.int i) := ⟨rfl, rfl, Nat.zero_le _⟩
theorem okN_bl {n : Nat} {b : Bool} : okN n (.bl b) := ⟨rfl, rfl, Nat.zero_le _⟩
theorem okN_non {n : Nat} : okN n .non := ⟨rfl, rfl, Nat.zero_le _⟩
theorem okNs_nil {n : Nat} : okNs n [] := ⟨rfl, rfl, Nat.zero_le _⟩
theorem okNs_cons {n : Nat} {d : D} {ds : List D} (h : okN n d) (g : okNs n ds) : okNs n (d :: ds) := by
  refine ⟨?_, ?_, ?_⟩
  · show (isPy d && isPys ds) = true
    rw [h.1, g.1] <;> rfl
  · show ((py d).canLay0 && PyData.canLayAll0 (pys ds)) = true
    rw [h.2.1, g.2.1] <;> rfl
  · show max (py d).depth (PyData.depthAll (pys ds)) ≤ n
    exact Nat.max_le.mpr ⟨h.2.2, g.2.2⟩
theorem okNs_all {n : Nat} : ∀ {ds : List D}, (∀ d ∈ ds, okN n d) → okNs n ds
  | [], _ => okNs_nil
  | _ :: _, h => okNs_cons (h _ List.mem_cons_self) (okNs_all fun d hd => h d (List.mem_cons_of_mem _ hd))
theorem okN_tup {n : Nat} {ds : List D} (h : okNs n ds) : okN (n + 1) (.tup ds) := ⟨h.1, h.2.1, by
  show PyData.depthAll (pys ds) + 1 ≤ n + 1
  have := h.2.2
  omega⟩
theorem okN_lst {n : Nat} {ds : List D} (h : okNs n ds) : okN (n + 1) (.lst ds) := ⟨h.1, h.2.1, by
  show PyData.depthAll (pys ds) + 1 ≤ n + 1
  have := h.2.2
  omega⟩
theorem okN_map {α : Type} {n : Nat} {f : α → D} {xs : List α} (h : ∀ x, okN n (f x)) : okNs n (xs.map f) := okNs_all fun d hd => by
  obtain ⟨x, _, e⟩ := List.mem_map.mp hd
  exact e ▸ h x
/-- codes that == tells apart as Lean does -/
def EqC {α : Type} [DecidableEq α] (f : α → D) : Prop := ∀ x y, eqD (f x) (f y) = decide (x = y)
def eqDs (xs ys : List D) : Bool := PyData.eqvAll (pys xs) (pys ys)
theorem eqDs_map {α : Type} [DecidableEq α] {f : α → D} (h : EqC f) : ∀ (xs ys : List α), eqDs (xs.map f) (ys.map f) = decide (xs = ys)
  | [], [] => rfl
  | [], _ :: _ => rfl
  | _ :: _, [] => rfl
  | x :: xs, y :: ys => by
    show (eqD (f x) (f y) && eqDs (xs.map f) (ys.map f)) = _
    rw [h x y, eqDs_map h xs ys]
    by_cases a : x = y <;> by_cases b : xs = ys <;> simp [a, b]
theorem eqC_int : EqC (D.int) := fun x y => by
  show (x == y) = _
  by_cases h : x = y <;> simp [h]
theorem eqC_tup {α : Type} [DecidableEq α] {f : α → D} (h : EqC f) : EqC fun xs : List α => D.tup (xs.map f) := fun xs ys => eqDs_map h xs ys
theorem eqC_lst {α : Type} [DecidableEq α] {f : α → D} (h : EqC f) : EqC fun xs : List α => D.lst (xs.map f) := fun xs ys => eqDs_map h xs ys
section
variable {X : Cx} {H0 : Hp} {Oc : List Addr} {d1 d2 : D}
/-- a == b of two such data -/
theorem c_eq {α : Type} [DecidableEq α] {f : α → D} (hu : X.A.units + 64 < cLine) (h : EqC f) (n : Nat) (hk : ∀ x, okN n (f x)) (hn : n ≤ 64) (x y : α) : C2 X H0 Oc .Eq (.bw (f x)) (.bw (f y)) (decide (x = y)) := h x y ▸ cm_eqD hu ((hk x).ok hn) ((hk y).ok hn)
theorem c_ne {α : Type} [DecidableEq α] {f : α → D} (hu : X.A.units + 64 < cLine) (h : EqC f) (n : Nat) (hk : ∀ x, okN n (f x)) (hn : n ≤ 64) (x y : α) : C2 X H0 Oc .NotEq (.bw (f x)) (.bw (f y)) (!decide (x = y)) := h x y ▸ cm_neD hu ((hk x).ok hn) ((hk y).ok hn)
theorem hu64 {A : Around} {k : Nat} (hr : Room k A) : A.units + 64 < cLine := by
  have := hr.un
  omega
end
section
variable {X : Cx} {H0 : Hp} {Oc : List Addr} {Γ : List Sl} {ad C dd : Addr} {oe : Obj} {pn : List (Addr × Obj)} {ns : List Str} {ds : List D} {a b : Expr} {x f : Str} {p p2 pos : Pos} {cv : V} {u : Value} {q : Bool} {d : D}
/-- isinstance(e, C), e the suite's own exception -/
theorem e_isE (hm : X.mg "isinstance" = none) (T : XcE X.K C) (hz : L2N.Zn (.ref C) (some dd) oe) (hf : ∃ vs, oe.data = .fields vs) (ha : Ev (X.suite ad ((ad, oe) :: pn)) H0 Oc Γ a (.va (.er ad C dd ns ds))) (hb : Ev (X.suite ad ((ad, oe) :: pn)) H0 Oc Γ b (.va (.opq cv)))
    (k : ClsV cv u) (hk : PySem.W.kitOne X.K (.ref C) u = some q) (hg : Gl X "isinstance" := by rfl)
    (he : starEach [a, b] X.env = (false, eval a X.env) :: starEach [b] X.env := by rfl) (he2 : starEach [b] X.env = (false, eval b X.env) :: starEach [] X.env := by rfl) (hpl : (backTo pos (starEach [b] X.env)).any (·.1) = false := by rfl) : Ev (X.suite ad ((ad, oe) :: pn)) H0 Oc Γ (.Call (.Name "isinstance" p) [a, b] [] pos) (.va (.bl q)) :=
  ev_isiE T hz hf ha hb k hk hm hg he he2 hpl
theorem e_cls {C : Addr} (hm : X.mg x = some (.ref C)) (hg : Gl X x := by rfl) (hdb : (x == ("__debug__" : Str)) = false := by decide) : Ev X H0 Oc Γ (.Name x pos) (.va (.opq (.ref C))) := ev_cls hg hm hdb
theorem e_ty {T : String} (hm : X.mg x = none) (hv : bootBuiltins x = some (.type T)) (hg : Gl X x := by rfl) (hn : x ≠ "__name__" := by decide) (hdb : (x == ("__debug__" : Str)) = false := by decide) : Ev X H0 Oc Γ (.Name x pos) (.va (.opq (.ty T))) := ev_ty hg hm hv hn hdb
end
end Y

namespace Y
open PySem PySem.Spec PyProof.Rows L2
/-! ## the ends -/
def pLaw : Pm := fun Γ o => ∃ ns : List Int, Γ = [.va (.fz (ns.map .int))] ∧ ns.length ≤ 63 ∧ o = .ret (.va (.bl true))
theorem law_sp {K : PySem.W.Frag} {H : Hp} {a : Addr} {ns : List Int} (hl : ns.length ≤ 63) (hS : SqL K H a (ns.map V.int)) : mkSp K pLaw [.ref a] H (fun v _ => v = .bl true) fun _ _ _ => False := by
  have ec : cut H [] = H := by
    funext b
    exact cut_out (by simp)
  refine ⟨[], _, _, ⟨ns, rfl, hl, rfl⟩, ⟨[], by simp, by simp, by simp, by simp, fun _ _ z => z, rfl, fun i s x h1 h2 => ?_, fun i j p d d' h1 h2 h3 h4 => ?_⟩, fun v H' ⟨O, w⟩ => ?_⟩
  · cases i with
    | zero =>
      cases h1
      cases h2
      refine ⟨_, rfl, a, ns.map V.int, rfl, ?_, Reps.of_ints⟩
      rw [ec]
      exact hS
    | succ i => cases h1
  · cases i with
    | zero => cases h1
    | succ i => cases h1
  · obtain ⟨u, e, r⟩ := w.head
    cases e
    exact r
theorem noCX {P : Program} {w : World} {H : Hp} {s : Shared} {e : Value} {s' : Shared} (c : L2N.CX P w [] H s (fun _ _ _ => False) e s') : False := by
  obtain ⟨_, _, _, _, _, _, _, _, _, _, _, _, z⟩ := c
  exact z
theorem walk (k : Nat) (hr : Room k callerA) {l : PySem.W.OpenLaw} {q : Program} {loose : List Str} {XP : (Str → Option Value) → Heap → Prop} {YP : World → Heap → Prop} {d : DefRec} {K : Params → PySem.W.Frag} (hn : l.most = some 63) (hdf : d.params.defaults = [])
    (hY : ∀ (w : World) (h : Heap), YP w h → (K w.params).In h)
    (F : ∀ (w : World) (mg : Str → Option Value) (fa : Addr) (h : Heap), (K w.params).In h → h.Ns mainGlobals mg → mg d.name = some (.ref fa) →
      ∃ fd : FuncData, (∀ (s : Shared) (u : Value), BindsTo s fd ⟨[u], []⟩ [("script", u)]) ∧ ∀ base : Heap, (K w.params).In base → base.Ns mainGlobals mg → FnOk l.prog w (K w.params) mg base (L2N.CX l.prog w) k fa fd ["script"] (mkSp (K w.params) pLaw)) :
    PySem.W.WalkO q loose XP YP l.row.toRowW d [] (fun f vs => PySem.call f vs) :=
  L2.walk_of (n := 63) (k := k) (x := "script") (CX := fun w => L2N.CX l.prog w) (sp := fun w => mkSp (K w.params) pLaw) hn (by decide) hdf hr hY F (fun _ _ a ns hl _ hS => law_sp hl hS) fun _ _ _ _ _ z => noCX z
/-! ### facts of the written part -/
theorem pins_of {K : PySem.W.Frag} {C : Addr} (cl : Cls K C) (ha : PySem.W.findIn K (.ref C) "__class__" = some (some (.builtin "object.__class__"))) (hn : PySem.W.specialIn K (.builtin "object.__class__") "__get__" = some (some (.builtin "getset_descriptor.__get__"))) (tk : PySem.W.takesIn K (.builtin "object.__class__") = some true) (hm : PySem.W.mroIn K C (.type "object") = some true) : IsC K C := ⟨cl, ha, hn, tk, hm⟩
section
variable {P : Program} {K : PySem.W.Frag} {mg : Str → Option Value} {C fI cda cc : Addr} {x f g txt qual : Str} {st : Stmt} {dV kV doc pm ct oc : Value} {an od : Option Addr} {osl : Array (Option Value)}
/-- what the head asks of an own error: its class, the def of its __init__, the code, the cell of __class__ -/
structure ErrF (P : Program) (K : PySem.W.Frag) (mg : Str → Option Value) (C cda cc : Addr) : Prop where
  ox : OexC K C
  sub : PySem.W.mroIn K C (.ref C) = some true
  sup : PySem.W.ks_superIn K C C "__init__" = some (some (.builtin "ValueError.__init__"))
  ve : PySem.W.subIn K (.ref C) (.type "ValueError") = some true
  code : ∃ ccl cdd vs ccs file tf, K.lookup cda = some ⟨ccl, cdd, .fields vs, ccs⟩ ∧ vs[2]? = some (.str file tf) ∧ ((P.main.file : Str) == file) = true
  top : (P.main.scope.names.lookup ("super" : Str)).isSome = false
  noSup : mg "super" = none
  cls : (PySem.W.clsIn K C).isSome = true
  thr : PySem.W.nsIn K PySem.cStatics "thirdparty.any" = some none
  hcell : ∃ cl cld csl, K.lookup cc = some ⟨cl, cld, .cell (some (.ref C)), csl⟩
theorem ErrF.te (E : ErrF P K mg C cda cc) : Sup.SupE K C C := ⟨E.ox, E.sub, E.sup, E.ve⟩
theorem ErrF.at1 (E : ErrF P K mg C cda cc) {fd : FuncData} (hf : ∃ oc od osl, K.lookup fI = some ⟨oc, od, .func fd, osl⟩) (hp : ∃ ar : Arg, (fd.params.posonlyargs ++ fd.params.args).head? = some ar ∧ ar.arg = "self") : Sup.SupAt P K mg fI cda cc C fd "self" :=
  ⟨hf, hp, E.code, E.top, E.noSup, Option.isSome_iff_exists.mp E.cls, E.thr⟩
theorem err1 {ar : Arguments} {bd : List Stmt} {nm : List (Str × NameKind)} (E : ErrF P K mg C cda cc) (gl : mg x = some (.ref C)) (iC : PySem.W.findIn K (.ref C) "__init__" = some (some (.ref fI))) (tI : PySem.W.typeIn K (.ref fI) = some (.type "function"))
    (lk : K.lookup fI = some ⟨oc, od, .func (PySem.W.fnX "__init__" qual ar bd (Sup.scOf nm) [("__class__", cc)] dV kV doc pm an (.ref cda) ct), osl⟩) (hcd : PySem.W.codeIn K (.ref cda) qual = true)
    (S : NdefX.NScope ["self", f, "__class__"] ["self", f] ["__class__"] (Sup.scOf nm)) (hsc : Sup.exSc (Sup.scOf nm) = true) (hb : Sup.exB1 txt f bd)
    (hp : ∃ a : Arg, (ar.posonlyargs ++ ar.args).head? = some a ∧ a.arg = "self") (noF : PySem.W.findIn K (.ref C) f = some none)
    (hbd : ∀ us : List Value, us.length = 2 → bindArgs (PySem.W.fnX "__init__" qual ar bd (Sup.scOf nm) [("__class__", cc)] dV kV doc pm an (.ref cda) ct) ⟨us, []⟩ = pure ((["self", f] : List Str).zip us))
    (hd1 : (f == ("__debug__" : Str)) = false := by decide) (hd2 : (f == ("__classdict__" : Str)) = false := by decide) : Sup.Ex1 P K mg x f C :=
  ⟨gl, E.te, fI, _, iC, tI, .all hbd, fun w base CX => Sup.ok_ex1 lk hcd S hsc hb (E.at1 ⟨_, _, _, lk⟩ hp) E.te E.hcell noF hd1 hd2⟩
theorem err2 {ar : Arguments} {bd : List Stmt} {nm : List (Str × NameKind)} (E : ErrF P K mg C cda cc) (gl : mg x = some (.ref C)) (iC : PySem.W.findIn K (.ref C) "__init__" = some (some (.ref fI))) (tI : PySem.W.typeIn K (.ref fI) = some (.type "function"))
    (lk : K.lookup fI = some ⟨oc, od, .func (PySem.W.fnX "__init__" qual ar bd (Sup.scOf nm) [("__class__", cc)] dV kV doc pm an (.ref cda) ct), osl⟩) (hcd : PySem.W.codeIn K (.ref cda) qual = true)
    (S : NdefX.NScope ["self", f, g, "__class__"] ["self", f, g] ["__class__"] (Sup.scOf nm)) (hsc : Sup.exSc (Sup.scOf nm) = true) (hb : Sup.exB2 txt f g bd)
    (hp : ∃ a : Arg, (ar.posonlyargs ++ ar.args).head? = some a ∧ a.arg = "self") (noF : PySem.W.findIn K (.ref C) f = some none) (noG : PySem.W.findIn K (.ref C) g = some none)
    (hbd : ∀ us : List Value, us.length = 3 → bindArgs (PySem.W.fnX "__init__" qual ar bd (Sup.scOf nm) [("__class__", cc)] dV kV doc pm an (.ref cda) ct) ⟨us, []⟩ = pure ((["self", f, g] : List Str).zip us))
    (hd1 : (f == ("__debug__" : Str)) = false := by decide) (hd2 : (f == ("__classdict__" : Str)) = false := by decide) (hd3 : (g == ("__debug__" : Str)) = false := by decide) (hd4 : (g == ("__classdict__" : Str)) = false := by decide) : Sup.Ex2 P K mg x f g C :=
  ⟨gl, E.te, fI, _, iC, tI, .all hbd, fun w base CX => Sup.ok_ex2 lk hcd S hsc hb (E.at1 ⟨_, _, _, lk⟩ hp) E.te E.hcell noF noG hd1 hd2 hd3 hd4⟩
end
end Y

namespace Sup
open PySem PySem.Spec PyProof.Rows L2 NdefX
/-! ## super().__init__(..) of an instance: the next class's def -/
structure SupI (K : PySem.W.Frag) (C D f2 : Addr) : Prop where
  cls : ∃ cd, PySem.W.clsIn K C = some cd
  sub : PySem.W.mroIn K C (.ref D) = some true
  sup : PySem.W.ks_superIn K C D "__init__" = some (some (.ref f2))
  ty : PySem.W.typeIn K (.ref f2) = some (.type "function")
  fi : PySem.W.fnIn K f2 = true
def tSupI (i j : Nat) (C D : Addr) (sp : Sp) (ta : TA) (u : TS) : TS := fun E σ H => ∃ (a dx : Addr) (fs : List (Str × V)), σ[j]? = some (some (.ref D)) ∧ σ[i]? = some (some (.ref a)) ∧ H a = some (.ins C dx fs) ∧
  ta σ H fun vs H1 => sp (.ref a :: vs) H1 (fun _ H2 => u E σ H2) E0
theorem psa_superI {X : Cx} {CX : CXT} {body : List Stmt} {rest : List Stmt} {p0 p1 p2 p3 p4 : Pos} {f cda cc C D f2 : Addr} {fd fd2 : FuncData} {sf : Str} {i j k : Nat} {e : Expr} {es : List Expr} {ta : TA} {u : TS} {pl : Sem Bool} {ps : List Str} {sp : Sp}
    (T : SupAt X.prog X.K X.mg f cda cc D fd sf) (S : SupI X.K C D f2) (F2 : FnOk X.prog X.w X.K X.mg X.base CX k f2 fd2 ps sp) (hrm : Room k X.A) (hb : L2.Binds X.K fd2 ps []) (hx : Passes CX X E0)
    (hfu : X.env.func = some f) (hco : X.env.code = .ref cda) (hks : X.env.kindOf "super" = some .globalImplicit) (hkc : X.env.kindOf "__class__" = some .free) (hka : X.env.kindOf sf = some .local)
    (hNi : X.N[i]? = some sf) (hNj : X.N[j]? = some ("__class__" : Str))
    (ha : PA X (e :: es) ta) (hr : PSA X (.func body X.env) rest u)
    (hi : interactive X.env = false) (hs : swapsWith (.Call (.Attribute (.Call (.Name "super" p0) [] [] p1) "__init__" p2) (e :: es) [] p3) none p4.line X.env = pure false)
    (he : starEach (e :: es) X.env = (false, eval e X.env) :: starEach es X.env) (hpl : (backTo p3 (starEach es X.env)).any (·.1) = false)
    (hev : eval (.Call (.Attribute (.Call (.Name "super" p0) [] [] p1) "__init__" p2) (e :: es) [] p3) X.env = (do
      let ov ← attributeBase (.Call (.Name "super" p0) [] [] p1) "__init__" X.env (eval (.Call (.Name "super" p0) [] [] p1) X.env)
      standAt p2.atName
      let (f, first) ← holding [ov] (getMethod ov "__init__" pl)
      callWith p3 f first (backTo p3 (starEach (e :: es) X.env)) [])) :
    PSA X (.func body X.env) (.Expr (.Call (.Attribute (.Call (.Name "super" p0) [] [] p1) "__init__" p2) (e :: es) [] p3) p4 :: rest) (tSupI i j C D sp ta u) := by
  refine ⟨fun pins s σ H D' I q => ?_⟩
  obtain ⟨a, dx, fs, hcls, hself, ea, q⟩ := q
  obtain ⟨cd, hcd⟩ := S.cls
  obtain ⟨_, Oa, _⟩ := ins_get I.hok ea
  obtain ⟨od, Ja, _⟩ := Oa.look
  have hno : ∀ c, (PySem.W.instObj C dx).data ≠ .cls c := fun c z => by
    have := Ja.no
    unfold PySem.W.notCls at this
    rw [z] at this
    exact Bool.noConfusion this
  refine ks_wpAt_execs_cons (ks_wpAt_Expr_any ?_ hi hs)
  refine ks_wpAt_MethodCall (pl := pl) ?_ hev
  refine sup_base T hfu hco hks hkc hka (by decide) hNi hNj hself hcls I Ja.at_ Ja.cls hno S.sub fun so h' hso J kp => ?_
  have KJ := J.kIn
  have JA : PySem.W.InstAt h' a (PySem.W.instObj C dx) C (some od) := by
    obtain ⟨_, Ob, _⟩ := ins_get J.hok ea
    obtain ⟨od2, Jb, _⟩ := Ob.look
    exact ⟨kp _ _ Ja.at_, Ja.cls, Ja.no, kp _ _ Ja.dict⟩
  obtain ⟨of, hof, hofc⟩ : ∃ of, h'.get? f2 = some of ∧ of.cls = .type "function" := by
    have ht : (X.K.lookup f2).map (·.cls) = some (.type "function") := S.ty
    cases z : X.K.lookup f2 with
    | none => rw [z] at ht; cases ht
    | some of => rw [z] at ht; exact ⟨of, KJ _ _ z, Option.some.inj ht⟩
  have hf := S.sup
  unfold PySem.W.ks_superIn at hf
  rw [hcd] at hf
  obtain ⟨hh, g, d, t, os⟩ := s
  refine ks_wpAny_getMethod_super hso (PySem.W.looks_opaque KJ T.thr) (l₀ := cd.mro) (fun A Q E s k q => wpAny_bind ((PySem.W.looks_clsIn KJ hcd) A _ E s k (wpAny_pure q))) rfl KJ hf hof hofc (PySem.W.ks_ne KJ JA hcd) (by decide) ?_
  have J2 := pin_new (t' := t + 1) J (h' := h'.push (PySem.W.methodObj (.ref f2) (.ref a))) (q := h'.objs.size) (o := PySem.W.methodObj (.ref f2) (.ref a)) (fun b u e => Heap.get?_push_of_some _ e) (Nat.le_refl _) (Heap.get?_push_at rfl rfl) (fun v z => nomatch z)
  have keep := PySem.W.keeps_M (M := model X.prog X.w) (K := X.K) (q := h'.objs.size) (f := f2) (self := .ref a) S.fi
  have hrun := ha.run p3 _ _ σ H _ J2 q
  rw [he] at hrun ⊢
  refine PySem.W.callWith_of (P := PySem.W.MethP X.K h'.objs.size f2 (.ref a)) ?_ keep (Calls.evalArgs_plain ?_)
  · show ((false || (backTo p3 (starEach es X.env)).any (·.1)) || false) = false
    rw [hpl]
    rfl
  refine thn hrun fun us s1 ⟨vs, H1, I1, r1, q1⟩ => ?_
  have hu : s1.heap.get? h'.objs.size = some (PySem.W.methodObj (.ref f2) (.ref a)) := (I1.pin (h'.objs.size, PySem.W.methodObj (.ref f2) (.ref a)) (List.mem_append_right _ List.mem_cons_self)).1
  refine ⟨⟨hu, I1.kIn⟩, ?_⟩
  have I2 := unpin I1
  have rv : Vals (V.ref a :: vs) (Value.ref a :: us) := .cons rfl r1
  have len : (Value.ref a :: us).length = ps.length := rv.length.symm.trans (F2.len _ _ _ _ q1)
  have bb := hb _ _ I2.kIn (by rw [List.append_nil]; exact len)
  rw [List.append_nil] at bb
  refine wpAny_call (PySem.ks_codeAny_call_bound hu ?_)
  refine codeAny_mono (F2.run X.A X.stack s1 H1 _ _ _ _ _ hrm I2.env0 bb rv q1) fun r s' done => ?_
  match r, done with
  | .error er, done => exact hx _ _ _ _ er s' I2 done
  | .ok .next, done => exact done.elim
  | .ok .brk, done => exact done.elim
  | .ok .cont, done => exact done.elim
  | .ok (.ret w), done =>
    obtain ⟨v, H2, I3, _, q3⟩ := I2.after done
    exact hr.run pins s' σ H2 D' I3 q3
end Sup

namespace Y
open PySem PySem.Spec PyProof.Rows L2 Sup NdefX
/-! ## bodies with super().__init__(..) of a subclass -/
def wpSA (X : Cx) (c : Code) (st : List Stmt) : TS := fun D σ H => ∀ (pins : List (Addr × Obj)) (s : Shared), Inv X pins σ H s → _root_.PySem.wpAt (model X.prog X.w) X.A c (execs st X.env) (SP X pins D) X.xe s
section
variable {X : Cx} {c : Code} {st : Stmt} {rest : List Stmt} {σ : L2.St} {H : Hp} {D : Ends}
theorem psa_wp {sts : List Stmt} : PSA X c sts (wpSA X c sts) := ⟨fun pins s σ H D I h => h pins s I⟩
theorem wpSA.of {sts : List Stmt} {t : TS} (h : PSA X c sts t) (q : t D σ H) : wpSA X c sts D σ H := fun pins s I => h.run pins s σ H D I q
theorem exec_one {M : Model} {A : Around} {E : Value → Shared → Prop} {env : Env} {Q : Flow → Shared → Prop} {s : Shared} (h : wpAny M A (execs [st] env) Q E s) : wpAny M A (exec st env) Q E s := fun Γ p hΓ => by
  have h1 := h Γ p hΓ
  rw [execs_cons, Sem.wp_bind'] at h1
  refine Sem.wp_mono M Γ _ (fun f p' s' h' => ?_) (fun _ _ _ h' => h') _ _ h1
  cases f <;> exact h'
theorem ps_one : PS X st (wpSs X [st]) := ⟨fun pins s σ H D I h => exec_one (h pins s I)⟩
end
def SdsA (X : Cx) (W : WX) (H0 : Hp) (Oc : List Addr) (c : Code) (Γ : List Sl) (st : List Stmt) (o : Out) : Prop := ∀ (σ : L2.St) (H : Hp) (D : Ends), Wf X.K H0 Oc Γ σ H → Sat X W H0 Oc [] [] D o → wpSA X c st D σ H
section
variable {X : Cx} {W : WX} {H0 : Hp} {Oc : List Addr} {c : Code} {Γ Γ1 : List Sl} {st : Stmt} {rest : List Stmt} {out : Out}
theorem sa_of {sts : List Stmt} (h : Sds X W H0 Oc Γ sts out) : SdsA X W H0 Oc c Γ sts out := fun σ H D w k => wpSA.of (psa_of pss_wp) (h [] [] σ H D rfl rfl w k)
theorem sa_cons (h1 : Sds X W H0 Oc Γ [st] (.nx Γ1)) (h2 : SdsA X W H0 Oc c Γ1 rest out) : SdsA X W H0 Oc c Γ (st :: rest) out := fun σ H D w k =>
  wpSA.of (psa_cons ps_one psa_wp) (h1 [] [] σ H _ rfl rfl w fun σ' H' w' => h2 σ' H' D w' k)
theorem sa_exit (h1 : Sds X W H0 Oc Γ [st] out) (hx : out.exit = true) : SdsA X W H0 Oc c Γ (st :: rest) out := fun σ H D w k =>
  wpSA.of (psa_cons (u := wpSA X c rest) ps_one psa_wp) (h1 [] [] σ H _ rfl rfl w (k.exit hx))
/-- the heap without one object -/
def less (H : Hp) (a : Addr) : Hp := fun b => if b = a then none else H b
theorem less_ne {H : Hp} {a b : Addr} (h : b ≠ a) : less H a b = H b := if_neg h
theorem less_same {H : Hp} {a : Addr} : less H a a = none := if_pos rfl
/-- values that stand frozen -/
def vaD : List Sl → Option (List D)
  | [] => some []
  | .va d :: ss => (vaD ss).map (d :: ·)
  | _ :: _ => none
theorem vaD_at : ∀ {ss : List Sl} {ds : List D}, vaD ss = some ds → ss = ds.map .va
  | [], _, h => by cases h; rfl
  | s :: ss, ds, h => by
    cases s <;> first | (cases h; done) | skip
    rename_i d
    unfold vaD at h
    cases e : vaD ss with
    | none => rw [e] at h; cases h
    | some ds' =>
      rw [e] at h
      cases h
      rw [vaD_at e]
      rfl
theorem args_va {K : PySem.W.Frag} {H : Hp} {O : List Addr} : ∀ {ds : List D} {vs : List V}, ArgsOk K H0 O H (ds.map .va) vs → Reps K (cut H O) ds vs
  | [], _, h => h
  | _ :: _, _, ⟨v, us, h1, ⟨v', e, h2⟩, h3⟩ => by
    cases e
    exact ⟨v, us, h1, h2, args_va h3⟩
/-- the object in slot i is lent to its next class's __init__ -/
theorem WfO.lend {K : PySem.W.Frag} {H : Hp} {O : List Addr} {G : List Sl} {S : List (Option V)} {i : Nat} {a C : Addr} {ds : List D} {vs : List V} (w : WfO K H0 Oc O G S H) (h1 : G[i]? = some (.ow (.slf a C [] []))) (h2 : S[i]? = some (some (.ref a))) (hr : Reps K (cut H O) ds vs) :
    WfO K (less H a) (O.filter (· ≠ a)) O (.ow (.obj C [] []) :: ds.map .va) (some (.ref a) :: vs.map some) H := by
  obtain ⟨hO, h0, o, hp, ho⟩ := w.owner h1 h2
  refine ⟨fun b z => (List.mem_filter.mp z).1, fun b z => ?_, fun b z => ?_, w.live, fun b u z => ?_, ?_, fun j s x h3 h4 => ?_, fun j k q d1 d2 h3 h4 h5 h6 => ?_⟩
  · by_cases e : b = a
    · exact .inr (by rw [e]; exact less_same)
    · exact .inl (List.mem_filter.mpr ⟨z, by simpa using e⟩)
  · obtain ⟨z1, z2⟩ := List.mem_filter.mp z
    rw [less_ne (by simpa using z2)]
    exact w.live b z1
  · by_cases e : b = a
    · rw [e, less_same] at z; cases z
    · rw [less_ne e] at z; exact z
  · have := hr.len
    simp [this]
  · cases j with
    | zero =>
      cases h3
      cases h4
      refine ⟨a, o, rfl, hO, less_same, hp, ?_⟩
      cases o <;> first | exact ho.elim | exact ⟨ho.1.1, ho.2⟩
    | succ j =>
      have h3' : (ds.map Sl.va)[j]? = some s := h3
      have h4' : (vs.map some)[j]? = some x := h4
      rw [List.getElem?_map] at h3' h4'
      cases e : ds[j]? with
      | none => rw [e] at h3'; cases h3'
      | some d =>
        rw [e] at h3'
        cases h3'
        obtain ⟨v, e2, rv⟩ := hr.get e
        rw [e2] at h4'
        cases h4'
        exact ⟨v, rfl, rv⟩
  · have only : ∀ j d, (Sl.ow (.obj C [] []) :: ds.map Sl.va)[j]? = some (.ow d) → j = 0 := fun j d h => by
      cases j with
      | zero => rfl
      | succ j =>
        have h' : (ds.map Sl.va)[j]? = some (.ow d) := h
        rw [List.getElem?_map] at h'
        cases e : ds[j]? with
        | none => rw [e] at h'; cases h'
        | some d' => rw [e] at h'; cases h'
    rw [only j d1 h3, only k d2 h5]
/-- .. and comes back -/
theorem WfO.back {K : PySem.W.Frag} {H H' : Hp} {O : List Addr} {G : List Sl} {S : List (Option V)} {i : Nat} {a C : Addr} {ns : List Str} {es : List D} (w : WfO K H0 Oc O G S H) (hb : stab G = true) (h1 : G[i]? = some (.ow (.slf a C [] []))) (h2 : S[i]? = some (some (.ref a)))
    (w' : Wf K (less H a) (O.filter (· ≠ a)) [.ow (.obj C ns es)] [some (.ref a)] H') : Wf K H0 Oc (G.set i (.ow (.slf a C ns es))) S H' := by
  obtain ⟨O2, w'⟩ := w'
  obtain ⟨hO, h0, o, hp, ho⟩ := w.owner h1 h2
  obtain ⟨p', o', e, k2, k3, k4, k5⟩ := w'.head
  cases e
  have hi : i < G.length := (List.getElem?_eq_some_iff.mp h1).1
  have keep : ∀ b u, b ≠ a → H b = some u → H' b = some u := fun b u e z => w'.ex b u (by rw [less_ne e]; exact z)
  have fr : Ex (cut H O) (cut H' O2) := fun b u z => by
    unfold cut at z ⊢
    split at z
    · cases z
    · rename_i n
      have ne : b ≠ a := fun e => n (e ▸ hO)
      have hb' : H' b = some u := keep b u ne z
      rw [if_neg fun m => ?_]
      · exact hb'
      · rcases w'.new b m with q | q
        · exact n (List.mem_filter.mp q).1
        · rw [less_ne ne, z] at q; cases q
  have nOc : a ∉ Oc := fun z => w.old a z h0
  refine ⟨O2, fun b z => w'.sub b (List.mem_filter.mpr ⟨w.sub b z, by simpa using fun q : b = a => nOc (q ▸ z)⟩), fun b z => ?_, w.old, w'.live, fun b u z => ?_, by simpa using w.len, fun j s x h3 h4 => ?_, fun j k q d1 d2 h3 h4 h5 h6 => ?_⟩
  · rcases w'.new b z with q | q
    · exact w.new b (List.mem_filter.mp q).1
    · by_cases e : b = a
      · exact .inr (e ▸ h0)
      · rw [less_ne e] at q
        refine .inr ?_
        cases z0 : H0 b with
        | none => rfl
        | some u => rw [w.ex b u z0] at q; cases q
  · have ne : b ≠ a := fun e => by rw [e, h0] at z; cases z
    exact keep b u ne (w.ex b u z)
  · by_cases ej : j = i
    · subst ej
      rw [List.getElem?_set_self hi] at h3
      cases h3
      rw [h2] at h4
      cases h4
      refine ⟨a, o', rfl, k2, h0, k4, ?_⟩
      cases o' <;> first | exact k5.elim | exact ⟨⟨k5.1, rfl⟩, k5.2⟩
    · rw [List.getElem?_set_ne (Ne.symm ej)] at h3
      have ok := w.ok j s x h3 h4
      cases s with
      | no => trivial
      | va d => obtain ⟨v, g1, g2⟩ := ok; exact ⟨v, g1, Rep.mono fr g2⟩
      | br d => obtain ⟨v, g1, g2⟩ := ok; exact ⟨v, g1, RepB.mono (fun _ _ z => z) fr g2⟩
      | bw d =>
        have := List.all_eq_true.mp hb _ (List.mem_of_getElem? h3)
        exact absurd this Bool.false_ne_true
      | ow d1 =>
        obtain ⟨q, o1, g1, g2, g3, g4, g5⟩ := ok
        subst g1
        have nq : q ≠ a := fun e => by
          subst e
          exact ej (w.nd j i q _ _ h3 h4 h1 h2)
        exact ⟨q, o1, rfl, w'.sub q (List.mem_filter.mpr ⟨g2, by simpa using nq⟩), g3, keep q o1 nq g4, RepH.mono fr g5⟩
  · have key : ∀ (k : Nat) (dd : D), (G.set i (Sl.ow (.slf a C ns es)))[k]? = some (Sl.ow dd) → ∃ dd', G[k]? = some (Sl.ow dd') := fun k dd h => by
      by_cases ek : k = i
      · subst ek
        exact ⟨_, h1⟩
      · rw [List.getElem?_set_ne (Ne.symm ek)] at h
        exact ⟨dd, h⟩
    obtain ⟨_, e⟩ := key j d1 h3
    obtain ⟨_, f⟩ := key k d2 h5
    exact w.nd j k q _ _ e h4 f h6
/-- super().__init__(..), self in slot i, `__class__` in slot j -/
theorem sa_super {body : List Stmt} {p0 p1 p2 p3 p4 : Pos} {f cda cc C DD f2 a : Addr} {fd fd2 : FuncData} {sf : Str} {k : Nat} {e : Expr} {es : List Expr} {pl : Sem Bool} {ps : List Str} {P2 : Pm} {ss : List Sl} {ds es2 : List D} {ns : List Str} (i j : Nat)
    (T : SupAt X.prog X.K X.mg f cda cc DD fd sf) (S : SupI X.K C DD f2) (F2 : FnOk X.prog X.w X.K X.mg X.base (L2N.CX X.prog X.w) k f2 fd2 ps (mkSpI X.K C P2)) (hrm : Room k X.A) (hb : L2.Binds X.K fd2 ps [])
    (hi : Γ[i]? = some (.ow (.slf a C [] []))) (hj : Γ[j]? = some (.va (.opq (.ref DD)))) (hst : stab Γ = true) (ha : Ea X H0 Oc Γ (e :: es) ss) (hva : vaD ss = some ds) (hp : P2 (ds.map .va) (.ret (.ow (.obj C ns es2))))
    (hr : SdsA X W H0 Oc (.func body X.env) (Γ.set i (.ow (.slf a C ns es2))) rest out)
    (hNi : X.N[i]? = some sf) (hNj : X.N[j]? = some ("__class__" : Str)) (hfu : X.env.func = some f := by rfl) (hco : X.env.code = .ref cda := by rfl) (hks : X.env.kindOf "super" = some .globalImplicit := by rfl) (hkc : X.env.kindOf "__class__" = some .free := by rfl) (hka : X.env.kindOf sf = some .local := by rfl)
    (hin : interactive X.env = false := by rfl) (hs : swapsWith (.Call (.Attribute (.Call (.Name "super" p0) [] [] p1) "__init__" p2) (e :: es) [] p3) none p4.line X.env = pure false := by rfl)
    (he : starEach (e :: es) X.env = (false, eval e X.env) :: starEach es X.env := by rfl) (hpl : (backTo p3 (starEach es X.env)).any (·.1) = false := by rfl)
    (hev : eval (.Call (.Attribute (.Call (.Name "super" p0) [] [] p1) "__init__" p2) (e :: es) [] p3) X.env = (do
      let ov ← attributeBase (.Call (.Name "super" p0) [] [] p1) "__init__" X.env (eval (.Call (.Name "super" p0) [] [] p1) X.env)
      standAt p2.atName
      let (f, first) ← holding [ov] (getMethod ov "__init__" pl)
      callWith p3 f first (backTo p3 (starEach (e :: es) X.env)) []) := by rfl) :
    SdsA X W H0 Oc (.func body X.env) Γ (.Expr (.Call (.Attribute (.Call (.Name "super" p0) [] [] p1) "__init__" p2) (e :: es) [] p3) p4 :: rest) out := fun σ H D w kk => by
  refine wpSA.of (psa_superI (i := i) (j := j) T S F2 hrm hb passLN hfu hco hks hkc hka hNi hNj pa_wp psa_wp hin hs he hpl hev) ?_
  obtain ⟨O, w0⟩ := id w
  obtain ⟨x, hx, pa, oo, rfl, g2, g3, g4, g5⟩ := slot_of (Δ := []) (τ := []) rfl w0 hi
  obtain ⟨y, hy, vy, rfl, ry⟩ := slot_of (Δ := []) (τ := []) rfl w0 hj
  obtain rfl : vy = .ref DD := ry
  cases oo <;> first | exact g5.elim | skip
  rename_i C' dx fs
  obtain ⟨⟨rfl, rfl⟩, g6⟩ := g5
  refine ⟨a, dx, fs, hy, hx, g4, ?_⟩
  refine ha [] [] σ H _ rfl w fun vs O1 H1 w1 ok => ?_
  have hss := vaD_at hva
  subst hss
  have rr := args_va ok
  have w1' : WfO X.K H0 Oc O1 Γ σ H1 := w1
  refine ⟨less H1 a, O1.filter (· ≠ a), ds.map .va, _, .ref a, vs, hp, rfl, ⟨O1, w1'.lend hi hx rr⟩, fun H2 w2 => ?_⟩
  exact hr σ H2 D (w1'.back hst hi hx w2) kk
end
section
variable {K : PySem.W.Frag} {H0 H : Hp} {O Oc : List Addr} {G : List Sl} {S : List (Option V)}
theorem WfO.snoc {s : Sl} {x : Option V} (w : WfO K H0 Oc O G S H) (h : SlOk K H0 O H s x) (hs : ∀ d, s ≠ .ow d) : WfO K H0 Oc O (G ++ [s]) (S ++ [x]) H := by
  have key : ∀ i s', (G ++ [s])[i]? = some s' → (G[i]? = some s' ∧ i < G.length) ∨ (i = G.length ∧ s' = s) := fun i s' h => by
    by_cases hi : i < G.length
    · rw [List.getElem?_append_left hi] at h
      exact .inl ⟨h, hi⟩
    · rw [List.getElem?_append_right (by omega)] at h
      cases e : i - G.length with
      | zero =>
        rw [e] at h
        cases h
        exact .inr ⟨by omega, rfl⟩
      | succ n => rw [e] at h; cases h
  refine ⟨w.sub, w.new, w.old, w.live, w.ex, by simp [w.len], fun i s' y h1 h2 => ?_, fun i j p d d' h1 h2 h3 h4 => ?_⟩
  · rcases key i s' h1 with ⟨e, hi⟩ | ⟨e, e2⟩
    · rw [List.getElem?_append_left (by rw [w.len]; exact hi)] at h2
      exact w.ok i s' y e h2
    · subst e2
      rw [e, ← w.len, List.getElem?_append_right (by omega), Nat.sub_self] at h2
      cases h2
      exact h
  · rcases key i _ h1 with ⟨e, hi⟩ | ⟨_, e⟩
    · rcases key j _ h3 with ⟨f, hj⟩ | ⟨_, f⟩
      · rw [List.getElem?_append_left (by rw [w.len]; exact hi)] at h2
        rw [List.getElem?_append_left (by rw [w.len]; exact hj)] at h4
        exact w.nd i j p d d' e h2 f h4
      · exact absurd f.symm (hs d')
    · exact absurd e.symm (hs d)
end
section
variable {Pr : Program} {w : World} {K : PySem.W.Frag} {mg : Str → Option Value} {base : Heap}
/-- an __init__ that calls super().__init__ -/
theorem initS_sds {fI cda cc C DD : Addr} {ar : Arguments} {bd : List Stmt} {sc : Scope} {qual : Str} {dV kV doc pm ct oc : Value} {an od : Option Addr} {osl : Array (Option Value)} {N ps : List Str} {k : Nat} {P : Pm}
    (lk : K.lookup fI = some ⟨oc, od, .func (PySem.W.fnX "__init__" qual ar bd sc [("__class__", cc)] dV kV doc pm an (.ref cda) ct), osl⟩) (hcd : PySem.W.codeIn K (.ref cda) qual = true)
    (S : NScope N ps ["__class__"] sc) (hcell : ∃ cl cld csl, K.lookup cc = some ⟨cl, cld, .cell (some (.ref DD)), csl⟩) (hlen : ∀ Γ o, P Γ o → Γ.length + 1 = ps.length)
    (hb : ∀ (A : Around) (outer : List Env) (s : Shared) (H : Hp) (E : XK), Room k (A.deeper (envF ⟨"__init__", qual, ar, bd, sc, [("__class__", cc)], cda⟩ fI s.heap.objs.size)) → ∀ (H0 : Hp) (Oc : List Addr) (Γ : List Sl) (o : Out) (a : Addr), P Γ o →
      ∃ o', SdsA (ncx (L2N.CX Pr w) Pr w K mg base N ⟨"__init__", qual, ar, bd, sc, [("__class__", cc)], cda⟩ fI A outer s H E) (wx E) H0 Oc (.func bd (envF ⟨"__init__", qual, ar, bd, sc, [("__class__", cc)], cda⟩ fI s.heap.objs.size))
        (.ow (.slf a C [] []) :: (Γ ++ (.va (.opq (.ref DD)) :: List.replicate (N.length - ps.length - 1) .no))) bd o' ∧ FinI a C o' o) :
    FnOk Pr w K mg base (L2N.CX Pr w) (k + 1) fI (PySem.W.fnX "__init__" qual ar bd sc [("__class__", cc)] dV kV doc pm an (.ref cda) ct) ps (mkSpI K C P) := by
  obtain ⟨cl, cld, csl, hcell⟩ := hcell
  have len : ∀ vs H Q E, mkSpI K C P vs H Q E → vs.length = ps.length := fun vs H Q E ⟨H0, Oc, Γ, o, self, us, hp, e, ⟨O, w⟩, _⟩ => by
    have := w.len
    rw [← hlen Γ o hp, ← List.length_map (f := some) (as := vs), this]
    rfl
  refine fn_ofA (k := k) (F := ⟨"__init__", qual, ar, bd, sc, [("__class__", cc)], cda⟩) (ws := [some (.ref DD)]) lk hcd S (fun s A outer H e0 => cells_class hcell e0) len fun A outer s H vs Q E hr hsp => ?_
  have hl := len vs H Q E hsp
  obtain ⟨H0, Oc, Γ, o, self, us, hp, rfl, ⟨O, w0⟩, sat⟩ := hsp
  obtain ⟨aa, oo, e, h2, h3, h4, h5⟩ := w0.head
  cases e
  obtain ⟨o', hS, fin⟩ := hb A outer s H E hr H0 Oc Γ o aa hp
  refine ⟨wpSA _ _ _, psa_wp, hS _ H _ ⟨O, ?_⟩ ?_⟩
  · have z := (w0.slf.snoc (s := .va (.opq (.ref DD))) (x := some (.ref DD)) ⟨.ref DD, rfl, rfl⟩ fun _ z => nomatch z).pad (N.length - ps.length - 1)
    rw [List.append_assoc, List.append_assoc] at z
    unfold startF
    rw [hl]
    exact z
  · match o', fin with
    | .nx Γ', fin =>
      obtain ⟨ns, ds, e1, rfl⟩ := fin
      exact fun σ H' ⟨O', w'⟩ => sat H' (w'.at0 e1)
    | .exc C ns ds Γe, fin =>
      obtain ⟨Γe', rfl⟩ := fin
      intro d σ H' xw
      refine sat d H' ?_
      cases Γe with
      | none => exact xw
      | some Γ2 => exact Wf.only (show Wf K H0 Oc (.va (.xd ns ds) :: ([] ++ Γ2)) (some (.ref d) :: ([] ++ σ)) H' from xw)
end
end Y

/-! # sorted(t), t a tuple of ints -/
namespace Srt2
open PySem PySem.Spec PyProof.Rows
section
variable {prog : Program} {w : World} {A : Around} {E : Value → Shared → Prop} {s : Shared}
theorem gather {t : Addr} {its : List Value} {Q : List Value → Shared → Prop} (ht : s.heap.IsTuple t its.toArray) (few : its.length ≤ sizeLine)
    (q : Q its { s with heap := (s.heap.push (seqObj "list" #[] 0)).update s.heap.objs.size (Obj.mapSeq (· ++ its.toArray)) }) : wpAny (model prog w) A (collect (.ref t)) Q E s := by
  obtain ⟨ob, at_, cls, ep, dat⟩ := id ht
  have at2 : (s.heap.push (seqObj "list" #[] 0)).get? t = some ob := Heap.get?_push_of_some _ at_
  have fresh : (s.heap.push (seqObj "list" #[] 0)).get? s.heap.objs.size = some (seqObj "list" #[] 0) := Heap.get?_push_size _ rfl
  unfold collect
  apply wpAny_bind
  apply wpAny_runValue
  apply codeAny_builtin entry_proto_collect'
  show wpAny _ _ (do again (.builtin "list.__iadd__" ⟨[← newList [], .ref t], []⟩)) _ _ s
  refine wpAny_bind (wpAny_newList ?_)
  apply wpAny_pure
  refine ⟨Code.quiet_builtin _ (by decide +kernel), codeAny_builtin entry_list_iadd' ?_⟩
  show wpAny _ _ (Builtin.List.listExtendWith (.ref s.heap.objs.size) (.ref t) (.ref s.heap.objs.size)) _ _ { s with heap := s.heap.push (seqObj "list" #[] 0) }
  unfold Builtin.List.listExtendWith
  apply wpAny_bind
  refine wpAny_typeOf (T := "tuple") ⟨ob, at2, cls⟩ ?_
  rw [if_pos (by rw [show (Value.type "tuple" == Value.type "list") = false by rfl, show (Value.type "tuple" == Value.type "tuple") = true by rfl]; simp)]
  apply wpAny_bind
  refine listItems_at at2 dat ?_
  apply wpAny_bind
  refine listItems_at (xs := #[]) (n := 0) fresh rfl ?_
  rw [if_neg (by simp)]
  apply wpAny_bind
  refine listUpdate_at (xs := #[]) (n := 0) fresh rfl ?_ (Nat.zero_le _) ?_
  · apply wpAny_pure
    show wpAny (model prog w) A (do
        let o ← load s.heap.objs.size
        match o.data with
        | .seq ys _ => pure ys.toList
        | _ => unsupported "internal:collect") Q E { s with heap := (s.heap.push (seqObj "list" #[] 0)).update s.heap.objs.size (Obj.mapSeq (· ++ its.toArray)) }
    apply wpAny_bind
    refine wpAny_load (get?_update_seq fresh _) ?_
    show wpAny _ _ (pure ((#[] : Array Value) ++ its.toArray).toList) Q E _
    have e : ((#[] : Array Value) ++ its.toArray).toList = its := by simp
    rw [e]
    exact wpAny_pure q
  · show (#[] ++ its.toArray).size ≤ sizeLine + 1
    have e : (#[] ++ its.toArray).size = its.length := by simp
    rw [e]
    exact Nat.le_succ_of_le few
theorem sorted_t {t : Addr} {its : List Value} {lt : Value → Value → Bool} {Q : Value → Shared → Prop} (O : SrtO.Swo lt) (ht : s.heap.IsTuple t its.toArray) (few : its.length ≤ sizeLine)
    (can : 2 ≤ its.length → ∀ (g : Heap) (b : Addr), g.get? b = some (seqObj "list" its.toArray 0) → (∀ c o, s.heap.get? c = some o → c ≠ b ∧ g.get? c = some o) → SrtO.SortableO prog w A.in1.in1 { s with heap := g } b its lt)
    (q : ∀ out : List Value, SrtO.Srtd lt out → SrtO.Stb lt out its → Q (.ref (s.heap.objs.size + 1)) { s with heap := sortedAll s.heap its out.toArray }) :
    wpAny (model prog w) A (call (.builtin "sorted") [.ref t]) Q E s := by
  refine Calls.call_function_entry kind_sorted plain_sorted entry_sorted (args_sorted1 _) ?_
  unfold Builtin.«sorted»
  apply wpAny_bind (m := checkCount "sorted" 1 1 _)
  apply wpAny_pure
  apply wpAny_bind
  refine gather ht few ?_
  apply wpAny_bind
  refine wpAny_newList ?_ few
  let g1 := (s.heap.push (seqObj "list" #[] 0)).update s.heap.objs.size (Obj.mapSeq (· ++ its.toArray))
  have z1 : g1.objs.size = s.heap.objs.size + 1 := (Heap.size_update ..).trans (size_push' ..)
  have z2 : (g1.push (seqObj "list" its.toArray 0)).get? (s.heap.objs.size + 1) = some (seqObj "list" its.toArray 0) := z1 ▸ Heap.get?_push_size _ rfl
  have old : ∀ c o, s.heap.get? c = some o → c ≠ s.heap.objs.size + 1 ∧ (g1.push (seqObj "list" its.toArray 0)).get? c = some o := fun c o e => by
    have lt : c < s.heap.objs.size := Heap.lt_size e
    refine ⟨Nat.ne_of_lt (Nat.lt_succ_of_lt lt), Heap.get?_push_of_some _ ((Heap.get?_update_ne _ _ _ _ (Nat.ne_of_lt lt)).trans (Heap.get?_push_of_some _ e))⟩
  show wpAny _ _ _ _ _ { s with heap := g1.push (seqObj "list" its.toArray 0) }
  rw [show ((s.heap.push (seqObj "list" #[] 0)).update s.heap.objs.size (Obj.mapSeq (· ++ its.toArray))).objs.size = s.heap.objs.size + 1 from z1]
  apply wpAny_bind
  apply wpAny_holding
  refine wpAny_call_entry slot_list_sort ⟨_, z2, rfl⟩ entry_list_sort ?_ (args_list_sort _)
  refine SrtO.list_sort_ord O z2 few (fun two => can two _ _ z2 old) fun out a b => ⟨_, rfl, ?_⟩
  exact wpAny_pure ⟨_, rfl, q out a b⟩
end
open L2
def rSortedTI (K : PySem.W.Frag) : List V → Hp → VK → Prop := fun vs H Q => ∃ (a : Addr) (ns : List Int), vs = [V.ref a] ∧ SqT K H a (ns.map V.int) ∧
  ∀ (ms : List Int) (p : Addr), ms.Perm ns → ms.Pairwise (· ≤ ·) → H p = none → Q (.ref p) (upd H p (.lst (ms.map V.int)))
theorem cr_sortedTI {X : Cx} : CallR X (.builtin "sorted") (rSortedTI X.K) := by
  intro pins s σ H vs us Q I r h
  obtain ⟨a, ns, rfl, hs, q⟩ := h
  obtain ⟨its, rv, ht, hz⟩ := I.tuple hs
  rw [Vals.ref1 r]
  have hi := rv.ints
  refine sorted_t SrtO.swo_int ht (by rw [← rv.length]; exact hz) (fun h2 g b _ _ => SrtO.ints_sortable hi h2) fun out a1 a2 => ?_
  obtain ⟨k1, k2, k3⟩ := SrtO.ints_out hi a1 a2
  obtain ⟨ep, at_⟩ := sortedAll_at s.heap its out.toArray
  have few : ((out.map SrtO.iv).map V.int).length ≤ sizeLine := by
    rw [List.length_map, k2.length_eq, ← List.length_map (f := V.int)]
    exact hz
  exact ⟨.ref _, upd H (s.heap.objs.size + 1) (.lst ((out.map SrtO.iv).map V.int)), I.laid (t' := s.toks) (fun _ _ => sortedAll_old) (Nat.le_succ _) ⟨few, out, ep, vals_of_ints k1, at_⟩, rfl, q _ _ k2 k3 (I.hok.fresh (Nat.le_succ _))⟩
end Srt2

/-! # enumerate(t), t a tuple -/
namespace EnT
open PySem PySem.Spec PyProof.Rows
abbrev tIt (t : Addr) : Obj := { cls := .type "tuple_iterator", data := .fields #[.ref t, .int 0 0] }
abbrev eOb (a : Addr) : Obj := { cls := .type "enumerate", data := .fields #[.none, .bool false, .ref a, rawInt 0, .none, .none] }
theorem new_meets (t : Addr) (its : Array Value) (n : Nat) (dct : Option Addr) (sl : Array (Option Value)) :
    Meets (Builtin.«enumerate.__new__» ⟨[.type "enumerate", .ref t], []⟩) (fun _ R s => s.heap.get? t = some { cls := .type "tuple", dict := dct, data := .seq its n, slots := sl } ∧
      R (.ok (.ret (.ref (s.heap.push (tIt t)).objs.size))) { s with heap := (s.heap.push (tIt t)).push (eOb s.heap.objs.size) }) :=
  .of_wp fun prog w A R s h => by
    obtain ⟨hp, g, d, tk, os⟩ := s
    obtain ⟨at_, h⟩ := h
    have sub := sub_enumerate
    have tup : Heap.IsTuple (Shared.heap ⟨hp, g, d, tk, os⟩) t its := ⟨_, at_, rfl, n, rfl⟩
    wp_walk using wpAny_loadPart' at_
    refine wpAny_stack_any fun zz => wpAny_pure ?_
    split
    · rename_i k0 _ _ _ _ _
      cases (k0 == Value.type "enumerate")
      · wp_walk using wpAny_loadPart' at_, wpAny_pyIter_tuple tup
        exact ⟨_, rfl, h⟩
      · wp_walk using wpAny_loadPart' at_, wpAny_pyIter_tuple tup
        exact ⟨_, rfl, h⟩
    · wp_walk using wpAny_loadPart' at_, wpAny_pyIter_tuple tup
      exact ⟨_, rfl, h⟩
section
variable {prog : Program} {w : World} {A : Around} {E : Value → Shared → Prop} {s : Shared}
theorem call_it {t : Addr} {its : Array Value} {Q : Value → Shared → Prop} (ht : s.heap.IsTuple t its)
    (q : ∀ g, IsEnum g (s.heap.objs.size + 1) s.heap.objs.size 0 .none → g.IsTupleIter s.heap.objs.size t 0 → (∀ b o, s.heap.get? b = some o → g.get? b = some o) → Q (.ref (s.heap.objs.size + 1)) { s with heap := g }) :
    wpAny (model prog w) A (call (.type "enumerate") [.ref t]) Q E s := by
  obtain ⟨⟨cl, dct, dt, sl⟩, at_, hc, n, hd⟩ := ht
  cases (show cl = .type "tuple" from hc)
  cases (show dt = .seq its n from hd)
  refine callType_new F.called_enumerate (by decide) (F.typeCall_enumerate_1 _) (F.newCall_enumerate_1 _) (fun obj => F.args_object_init_2 obj _) F.entry_enumerate_new (new_meets t its n dct sl) ⟨at_, ?_⟩
  have z : (s.heap.push (tIt t)).objs.size = s.heap.objs.size + 1 := Heap.size_push ..
  have en : IsEnum ((s.heap.push (tIt t)).push (eOb s.heap.objs.size)) (s.heap.objs.size + 1) s.heap.objs.size 0 .none := by
    have y := Heap.get?_push_size (s.heap.push (tIt t)) (o := eOb s.heap.objs.size) rfl
    rw [z] at y
    exact y
  show _ ∧ _
  rw [z]
  exact ⟨⟨_, en, rfl⟩, q _ en ⟨_, Heap.get?_push_of_some _ (Heap.get?_push_size _ rfl), rfl, rfl⟩ fun b o e => Heap.get?_push_of_some _ (Heap.get?_push_of_some _ e)⟩
end
open L2
/-- the tuple at a, each item in a new pair -/
def Iet (K : PySem.W.Frag) (a : Addr) : It :=
  ⟨fun i H => ∃ (xs : List V) (x : V), SqT K H a xs ∧ xs[i]? = some x, fun i H v H' => ∃ T x, v = .ref T ∧ H T = none ∧ H' = upd H T (.tup [.int (i : Nat), x]) ∧ ∀ xs, SqT K H a xs → xs[i]? = some x, fun i H => ∃ xs : List V, SqT K H a xs ∧ xs.length ≤ i⟩
theorem turn {P : Program} {w : World} {K : PySem.W.Frag} {elts : List Expr} {kk : Nat} {tpos : Pos} (a e it : Addr) :
    Turn P w K (.Tuple elts kk tpos) (Iet K a) [e, it] e (fun i h => (∃ old, IsEnum h e it ((i : Nat) : Int) old) ∧ h.IsTupleIter it a i ∧ e ≠ it) where
  mem := List.mem_cons_self
  obj := fun i h st b hb => by
    obtain ⟨⟨old, at_⟩, ⟨o, ho, _, hd⟩, _⟩ := st
    rcases List.mem_cons.mp hb with rfl | hb
    · exact ⟨_, at_, fun v q => nomatch q⟩
    · rw [List.mem_singleton.mp hb]
      exact ⟨o, ho, fun v q => by rw [hd] at q; cases q⟩
  keep := fun i h h' st k => ⟨⟨st.1.choose, k e List.mem_cons_self _ st.1.choose_spec⟩, st.2.1.at fun o q => k it (List.mem_cons_of_mem _ List.mem_cons_self) o q, st.2.2⟩
  item := by
    intro X hP hw hK hc i pins s σ H E I hf st hg
    subst hP hw hK
    obtain ⟨⟨old, at_⟩, hit, hne⟩ := st
    obtain ⟨xs, x, hq, hx⟩ := hg
    obtain ⟨its, rv, tp, hz⟩ := I.tuple hq
    obtain ⟨u, hu, ru⟩ := rv.get hx
    have le : e < s.heap.objs.size := Heap.lt_size at_
    have li : it < s.heap.objs.size := by obtain ⟨_, q, _⟩ := hit; exact Heap.lt_size q
    have nt : a ≠ it := fun z => by
      obtain ⟨o1, q1, c1, _⟩ := hit
      obtain ⟨o2, q2, c2, _⟩ := tp
      rw [z, q1] at q2
      cases q2
      rw [c1] at c2
      exact absurd c2 (by decide)
    have ne : e ≠ a := fun z => by
      obtain ⟨o2, q2, c2, _⟩ := tp
      have q1 : s.heap.get? e = _ := at_
      rw [← z, q1] at q2
      cases q2
      have c3 : Value.type "enumerate" = Value.type "tuple" := c2
      exact absurd c3 (by decide)
    have hi : i < its.toArray.size := by
      have := (List.getElem?_eq_some_iff.mp hu).1
      simpa using this
    refine wpAny_pyNext_enum_itemD (Draws.tuple (prog := X.prog) (w := X.w) (A := X.A.in1) (by simp [I.ok.hd hc]) it a nt its.toArray) at_ ⟨hit, tp⟩ hi hne (fun z => ?_) fun y g tk hy ho st2 hT _ hk => ?_
    · rcases List.mem_cons.mp z with z | z
      · exact hne z
      · exact ne (List.mem_singleton.mp z)
    have ey : y = u := by
      have h1 : its.toArray[i]? = some y := hy
      rw [List.getElem?_toArray, hu] at h1
      exact (Option.some.inj h1).symm
    subst ey
    refine ⟨_, rfl, wpAny_letOwnedTupleGo_enum (s := { s with heap := g, toks := tk + 1 }) ho fun g2 he' sb => ?_⟩
    have hT2 : g2.get? s.heap.objs.size = some { cls := .type "tuple", data := .seq #[.int i tk, y] } := (sb.2 _ (Nat.ne_of_gt le)).trans hT
    have new : ObjOk X.prog X.w (upd H s.heap.objs.size (.tup [.int (i : Nat), x])) g2 s.heap.objs.size (.tup [.int (i : Nat), x]) :=
      ⟨by show 2 ≤ sizeLine; decide, [.int i tk, y], .cons ⟨_, rfl⟩ (.cons ru .nil), ⟨_, hT2, rfl, _, rfl⟩⟩
    have I1 : Inv X pins σ (upd H s.heap.objs.size (.tup [.int (i : Nat), x])) { s with heap := g2, toks := tk + 1 } :=
      I.turnedNew (ch := [e, it]) (fun b ob hb q => (sb.2 b fun z => hb (by rw [z]; exact List.mem_cons_self)).trans (hk b ob (fun z => hb (by rw [z]; exact List.mem_cons_self)) (fun z => hb (by rw [z]; exact List.mem_cons_of_mem _ List.mem_cons_self)) q)) hf (Nat.le_refl _) new
    refine ⟨.ref s.heap.objs.size, _, I1, rfl, ⟨_, x, rfl, I.hok.fresh (Nat.le_refl _), rfl, fun ys hy => by rw [I.tuple_inj hy hq]; exact hx⟩, ⟨⟨y, ?_⟩, st2.1.at fun o q => (sb.2 it (Ne.symm hne)).trans q, hne⟩, fun b hb => ?_⟩
    · have e1 : ((i + 1 : Nat) : Int) = (i : Int) + 1 := rfl
      rw [e1]
      exact he'
    · have lb : b < s.heap.objs.size := by
        rcases List.mem_cons.mp hb with rfl | hb
        · exact le
        · rw [List.mem_singleton.mp hb]; exact li
      rw [upd_ne (Nat.ne_of_lt lb)]
      exact (hf b hb).1
  done := by
    intro X hP hw hK hc i pins s σ H E I hf st hg
    subst hP hw hK
    obtain ⟨⟨old, at_⟩, hit, hne⟩ := st
    obtain ⟨xs, hq, hx⟩ := hg
    obtain ⟨its, rv, tp, hz⟩ := I.tuple hq
    obtain ⟨f0, f1, f2, f3, f4, f5⟩ := hf it (List.mem_cons_of_mem _ List.mem_cons_self)
    have nt : a ≠ it := fun z => by
      obtain ⟨o1, q1, c1, _⟩ := hit
      obtain ⟨o2, q2, c2, _⟩ := tp
      rw [z, q1] at q2
      cases q2
      rw [c1] at c2
      exact absurd c2 (by decide)
    unfold pyNext
    have hT : s.TypeIs (.ref e) "enumerate" := ⟨_, at_, rfl⟩
    refine wpAny_bind (wpAny_attempt (wpAny_callSpecial?_slot (name := Str.ofString "__next__") hT F.slot_enumerate_next (wpAny_call_entry F.slot_enumerate_next hT F.entry_enumerate_next ?_ (F.args_enumerate_next_1 _))))
    show wpAny _ _ (field (.ref e) 2 >>= _) _ _ _
    refine wpAny_bind (wpAny_field at_ rfl (x := .ref it) rfl ?_)
    have none : its.toArray[i]? = Option.none := by
      rw [List.getElem?_toArray]
      exact List.getElem?_eq_none (by rw [← rv.length]; exact hx)
    refine wpAny_bind (wpAny_nextOf_tuple_end (I.ok.hd hc) hit tp none fun g x hg2 hx2 => ?_)
    obtain ⟨o, ho, hcl⟩ := hx2
    refine wpAny_bind (wpAny_isInstance (T := "StopIteration") (b := true) ⟨o, ho, hcl⟩ isSubtype_stop ?_)
    exact wpAny_pure ⟨rfl, I.turned (t' := s.toks) (fun b o hb q => hg2 b o hb q) f0 f1 f3 f4 f5⟩
  self := fun A i s Q E st h => let ⟨⟨_, at_⟩, _⟩ := st; wpAny_pyIter_enum at_ h
def iEnT (K : PySem.W.Frag) (ta : TA) : TI := fun σ H R => ta σ H fun vs H1 => ∃ a xs, vs = [.ref a] ∧ SqT K H1 a xs ∧ R (Iet K a) H1
theorem pi_enT {X : Cx} {e : Expr} {ta : TA} {p pos tpos : Pos} {elts : List Expr} {kk : Nat} (hg : Gl X "enumerate") (hm : X.mg "enumerate" = none) (ha : PA X [e] ta) (hs : starEach [e] X.env = [(false, eval e X.env)]) :
    PI X (.Tuple elts kk tpos) (.Call (.Name "enumerate" p) [e] [] pos) (iEnT X.K ta) := by
  refine ⟨fun pins s σ H R I h => Call_ (ld_blt I hg hm boot_enumerate (PyProof.Rows.callWith_type1 (thn (ha.run pos pins s σ H _ I h) fun us s1 ⟨vs, H1, I1, r1, q1⟩ => ?_) hs rfl))⟩
  obtain ⟨a, xs, rfl, hq, q⟩ := q1
  rw [Vals.ref1 r1]
  obtain ⟨its, rv, tp, hz⟩ := I1.tuple hq
  refine call_it tp fun g he hit hk => wpAny_pyIter_enum he ?_
  refine ⟨s1.heap.objs.size + 1, [s1.heap.objs.size + 1, s1.heap.objs.size], _, _, H1, rfl, I1.kept (t' := s1.toks) hk, turn a (s1.heap.objs.size + 1) s1.heap.objs.size, ⟨⟨.none, he⟩, hit, Nat.succ_ne_self _⟩, fun b hb => ?_, q⟩
  have le : s1.heap.objs.size ≤ b := by
    rcases List.mem_cons.mp hb with rfl | hb
    · exact Nat.le_succ _
    · rw [List.mem_singleton.mp hb]; exact Nat.le_refl _
  exact I1.fpOk le (I1.hok.fresh le)
end EnT

namespace Y
open PySem PySem.Spec PyProof.Rows L2
/-! ## order -/
def lexLe : List Int → List Int → Bool
  | [], _ => true
  | _ :: _, [] => false
  | a :: r, b :: q => decide (a < b) || (decide (a = b) && lexLe r q)
theorem lex_total : ∀ a b : List Int, (lexLe a b || lexLe b a) = true
  | [], _ => by simp [lexLe]
  | _ :: _, [] => by simp [lexLe]
  | a :: r, b :: q => by
    have ih := lex_total r q
    simp only [lexLe, Bool.or_eq_true, decide_eq_true_eq, Bool.and_eq_true] at ih ⊢
    rcases Int.lt_trichotomy a b with h | h | h
    · exact .inl (.inl h)
    · rcases ih with i | i
      · exact .inl (.inr ⟨h, i⟩)
      · exact .inr (.inr ⟨h.symm, i⟩)
    · exact .inr (.inl h)
theorem lex_trans : ∀ a b c : List Int, lexLe a b = true → lexLe b c = true → lexLe a c = true
  | [], _, _, _, _ => by simp [lexLe]
  | _ :: _, [], _, h, _ => by simp [lexLe] at h
  | _ :: _, _ :: _, [], _, h => by simp [lexLe] at h
  | a :: r, b :: q, c :: t, h1, h2 => by
    have ih := lex_trans r q t
    simp only [lexLe, Bool.or_eq_true, decide_eq_true_eq, Bool.and_eq_true] at h1 h2 ⊢
    rcases h1 with h1 | ⟨e1, h1⟩
    · rcases h2 with h2 | ⟨e2, h2⟩
      · exact .inl (by omega)
      · exact .inl (by omega)
    · rcases h2 with h2 | ⟨e2, h2⟩
      · exact .inl (by omega)
      · exact .inr ⟨by omega, ih h1 h2⟩
theorem lex_anti : ∀ a b : List Int, lexLe a b = true → lexLe b a = true → a = b
  | [], [], _, _ => rfl
  | [], _ :: _, _, h => by simp [lexLe] at h
  | _ :: _, [], h, _ => by simp [lexLe] at h
  | a :: r, b :: q, h1, h2 => by
    simp only [lexLe, Bool.or_eq_true, decide_eq_true_eq, Bool.and_eq_true] at h1 h2
    rcases h1 with h1 | ⟨e1, h1⟩
    · rcases h2 with h2 | ⟨e2, h2⟩ <;> omega
    · rcases h2 with h2 | ⟨e2, h2⟩
      · omega
      · rw [e1, lex_anti r q h1 h2]
theorem lex_code {B : Int} : ∀ {a b : List Int}, a.length = b.length → TS.Bd B a → TS.Bd B b → TS.code B a ≤ TS.code B b → lexLe a b = true
  | [], _, _, _, _, _ => by simp [lexLe]
  | _ :: _, [], h, _, _, _ => by simp at h
  | a :: r, b :: q, hl, h1, h2, hc => by
    have hl' : r.length = q.length := by simpa using hl
    simp only [lexLe, Bool.or_eq_true, decide_eq_true_eq, Bool.and_eq_true]
    rcases Int.lt_trichotomy a b with h | h | h
    · exact .inl h
    · subst h
      refine .inr ⟨rfl, lex_code hl' h1.tail h2.tail ?_⟩
      have := (TS.code_same (d := a) hl'.symm (B := B)).mpr
      rcases Int.lt_or_le (TS.code B q) (TS.code B r) with z | z
      · have := this z
        omega
      · exact z
    · have := TS.code_lt hl'.symm h2.tail h1.tail h
      omega
/-- sorted(..) of tuples of ints, of ints -/
def sortL (L : List (List Int)) : List (List Int) := L.mergeSort lexLe
def sortI (ns : List Int) : List Int := ns.mergeSort (fun x y => decide (x ≤ y))
theorem sortL_perm (L : List (List Int)) : (sortL L).Perm L := List.mergeSort_perm _ _
theorem sortL_pair (L : List (List Int)) : (sortL L).Pairwise (fun a b => lexLe a b = true) := List.pairwise_mergeSort lex_trans lex_total L
theorem sortL_uniq {M L : List (List Int)} (h : M.Perm L) (hp : M.Pairwise (fun a b => lexLe a b = true)) : M = sortL L :=
  List.Perm.eq_of_pairwise (fun a b _ _ h1 h2 => lex_anti a b h1 h2) hp (sortL_pair L) (h.trans (sortL_perm L).symm)
/-! ## permuted values -/
theorem Reps.perm {K : PySem.W.Frag} {H : Hp} {α : Type} {f : α → D} {us vs : List V} (p : us.Perm vs) : ∀ {L : List α}, Reps K H (L.map f) vs → ∃ M : List α, M.Perm L ∧ Reps K H (M.map f) us := by
  induction p with
  | nil =>
    intro L h
    exact ⟨L, .refl _, h⟩
  | cons x p ih =>
    intro L h
    match L, h with
    | [], h => cases (show _ = [] from h)
    | a :: L, ⟨v, ws, e, h1, h2⟩ =>
      cases e
      obtain ⟨M, m1, m2⟩ := ih h2
      exact ⟨a :: M, m1.cons a, x, _, rfl, h1, m2⟩
  | swap x y l =>
    intro L h
    match L, h with
    | [], h => cases (show _ = [] from h)
    | [a], ⟨v, ws, e, h1, h2⟩ =>
      cases e
      cases (show _ = [] from h2)
    | a :: b :: L, ⟨v, ws, e, h1, v', ws', e', h2, h3⟩ =>
      cases e
      cases e'
      exact ⟨b :: a :: L, .swap a b L, y, _, rfl, h2, x, _, rfl, h1, h3⟩
  | trans p q ih1 ih2 =>
    intro L h
    obtain ⟨M, m1, m2⟩ := ih2 h
    obtain ⟨N, n1, n2⟩ := ih1 m2
    exact ⟨N, n1.trans m1, n2⟩
theorem Reps.bls {K : PySem.W.Frag} {H : Hp} : ∀ {bs : List Bool} {vs : List V}, Reps K H (bs.map .bl) vs → vs = bs.map V.bl
  | [], _, h => h
  | _ :: _, _, ⟨_, _, h1, h2, h3⟩ => by rw [h1, h2, Reps.bls h3] <;> rfl
/-- a tuple of ints -/
def encT (ns : List Int) : D := .tup (ns.map .int)
theorem rep_tup {K : PySem.W.Frag} {H : Hp} {ns : List Int} {v : V} (h : Rep K H (encT ns) v) : ∃ t, v = .ref t ∧ H t = some (.tup (ns.map V.int)) := by
  obtain ⟨t, vs, e, h1, h2⟩ := h
  rw [Reps.ints h2] at h1
  exact ⟨t, e, h1⟩
theorem map_int_inj : ∀ {a b : List Int}, a.map V.int = b.map V.int → a = b
  | [], [], _ => rfl
  | [], _ :: _, h => by simp at h
  | _ :: _, [], h => by simp at h
  | x :: a, y :: b, h => by
    simp only [List.map_cons, List.cons.injEq] at h
    obtain ⟨h1, h2⟩ := h
    cases h1
    rw [map_int_inj h2]
section
variable {X : Cx} {W : WX} {H0 : Hp} {Oc : List Addr} {Γ : List Sl} {a b : Expr} {d : D} {ds : List D} {i j : Int} {pos p : Pos} {bs : List Bool} {ns : List Int}
theorem e_all (hm : X.mg "all" = none) (hc : X.calm = true) (ha : Ev X H0 Oc Γ a (.bw (.lst (bs.map .bl)))) (hg : Gl X "all" := by rfl) (he : starEach [a] X.env = (false, eval a X.env) :: starEach [] X.env := by rfl) (hpl : (backTo pos (starEach [] X.env)).any (·.1) = false := by rfl) :
    Ev X H0 Oc Γ (.Call (.Name "all" p) [a] [] pos) (.va (.bl (bs.all id))) := ev_b1 (cr_all hc) ha hm (by decide +kernel) hg (fun G S H v Q W q => by
      obtain ⟨⟨O, h⟩, O', W'⟩ := W.popB
      obtain ⟨t, vs, rfl, h1, h2⟩ := h
      have e : vs = bs.map V.bl := Reps.bls h2
      subst e
      exact ⟨t, bs, rfl, .of h1, q _ H ⟨O', W'.flat (d := .bl (bs.all id)) (H' := H) rfl rfl⟩⟩) (by decide) (by decide) he hpl
theorem e_any (hm : X.mg "any" = none) (hc : X.calm = true) (ha : Ev X H0 Oc Γ a (.bw (.lst (bs.map .bl)))) (hg : Gl X "any" := by rfl) (he : starEach [a] X.env = (false, eval a X.env) :: starEach [] X.env := by rfl) (hpl : (backTo pos (starEach [] X.env)).any (·.1) = false := by rfl) :
    Ev X H0 Oc Γ (.Call (.Name "any" p) [a] [] pos) (.va (.bl (bs.any id))) := ev_b1 (cr_any hc) ha hm (by decide +kernel) hg (fun G S H v Q W q => by
      obtain ⟨⟨O, h⟩, O', W'⟩ := W.popB
      obtain ⟨t, vs, rfl, h1, h2⟩ := h
      have e : vs = bs.map V.bl := Reps.bls h2
      subst e
      exact ⟨t, bs, rfl, .of h1, q _ H ⟨O', W'.flat (d := .bl (bs.any id)) (H' := H) rfl rfl⟩⟩) (by decide) (by decide) he hpl
theorem e_max (hm : X.mg "max" = none) (hc : X.calm = true) (ha : Ev X H0 Oc Γ a (.va (.int i))) (hb : Ev X H0 Oc Γ b (.va (.int j))) (hg : Gl X "max" := by rfl) (he : starEach [a, b] X.env = (false, eval a X.env) :: starEach [b] X.env := by rfl) (he2 : starEach [b] X.env = (false, eval b X.env) :: starEach [] X.env := by rfl) (hpl : (backTo pos (starEach [b] X.env)).any (·.1) = false := by rfl) :
    Ev X H0 Oc Γ (.Call (.Name "max" p) [a, b] [] pos) (.va (.int (max i j))) := fun Δ τ σ H Q hl w kk =>
  wpE.of (pe_callB (call_max2 hc) hg hm (by decide +kernel) (pa_cons pe_wp (pa_cons pe_wp pa_nil he2) he) (by decide) (by decide) he hpl) (ha Δ τ σ H _ hl w fun v H1 w1 =>
    hb (.va (.int i) :: Δ) (some v :: τ) σ H1 _ (by simp [hl]) w1 fun z H2 ⟨O, w2⟩ => by
      obtain ⟨z', e1, r1⟩ := w2.head
      cases e1
      obtain ⟨v', e2, r2⟩ := w2.pop.head
      cases e2
      refine ⟨i, j, by rw [show v = _ from r2, show z = _ from r1], kk _ H2 ⟨O, w2.pop.pop.flat (H' := H2) rfl ?_⟩⟩
      show V.int _ = V.int _
      congr 1
      split <;> omega)
theorem e_min (hm : X.mg "min" = none) (hc : X.calm = true) (ha : Ev X H0 Oc Γ a (.va (.int i))) (hb : Ev X H0 Oc Γ b (.va (.int j))) (hg : Gl X "min" := by rfl) (he : starEach [a, b] X.env = (false, eval a X.env) :: starEach [b] X.env := by rfl) (he2 : starEach [b] X.env = (false, eval b X.env) :: starEach [] X.env := by rfl) (hpl : (backTo pos (starEach [b] X.env)).any (·.1) = false := by rfl) :
    Ev X H0 Oc Γ (.Call (.Name "min" p) [a, b] [] pos) (.va (.int (min i j))) := fun Δ τ σ H Q hl w kk =>
  wpE.of (pe_callB (call_min2 hc) hg hm (by decide +kernel) (pa_cons pe_wp (pa_cons pe_wp pa_nil he2) he) (by decide) (by decide) he hpl) (ha Δ τ σ H _ hl w fun v H1 w1 =>
    hb (.va (.int i) :: Δ) (some v :: τ) σ H1 _ (by simp [hl]) w1 fun z H2 ⟨O, w2⟩ => by
      obtain ⟨z', e1, r1⟩ := w2.head
      cases e1
      obtain ⟨v', e2, r2⟩ := w2.pop.head
      cases e2
      refine ⟨i, j, by rw [show v = _ from r2, show z = _ from r1], kk _ H2 ⟨O, w2.pop.pop.flat (H' := H2) rfl ?_⟩⟩
      show V.int _ = V.int _
      congr 1
      split <;> omega)
/-- sorted(list of ints) -/
theorem e_sortI (hm : X.mg "sorted" = none) (ha : Ev X H0 Oc Γ a (.bw (.lst (ns.map .int)))) (hg : Gl X "sorted" := by rfl) (he : starEach [a] X.env = (false, eval a X.env) :: starEach [] X.env := by rfl) (hpl : (backTo pos (starEach [] X.env)).any (·.1) = false := by rfl) :
    Ev X H0 Oc Γ (.Call (.Name "sorted" p) [a] [] pos) (.ow (.lst ((sortI ns).map .int))) := ev_b1 cr_sortedI ha hm (by decide +kernel) hg (fun G S H v Q ⟨O, W⟩ q => by
      obtain ⟨u, g1, t, vs, rfl, h1, h2⟩ := W.head
      cases g1
      rw [Reps.ints h2] at h1
      refine ⟨t, ns, rfl, .of h1, fun ms pp m1 m2 hp => q _ _ ⟨_, W.pop.newLst hp (ds := (sortI ns).map .int) ?_⟩⟩
      rw [PySem.W.os_sorted_mergeSort m1 m2]
      exact Reps.of_ints) (by decide) (by decide) he hpl
/-- sorted(tuple of ints) -/
theorem e_sortTI (hm : X.mg "sorted" = none) (ha : Ev X H0 Oc Γ a (.bw (encT ns))) (hg : Gl X "sorted" := by rfl) (he : starEach [a] X.env = (false, eval a X.env) :: starEach [] X.env := by rfl) (hpl : (backTo pos (starEach [] X.env)).any (·.1) = false := by rfl) :
    Ev X H0 Oc Γ (.Call (.Name "sorted" p) [a] [] pos) (.ow (.lst ((sortI ns).map .int))) := ev_b1 Srt2.cr_sortedTI ha hm (by decide +kernel) hg (fun G S H v Q ⟨O, W⟩ q => by
      obtain ⟨u, g1, t, vs, rfl, h1, h2⟩ := W.head
      cases g1
      rw [Reps.ints h2] at h1
      refine ⟨t, ns, rfl, .of h1, fun ms pp m1 m2 hp => q _ _ ⟨_, W.pop.newLst hp (ds := (sortI ns).map .int) ?_⟩⟩
      rw [PySem.W.os_sorted_mergeSort m1 m2]
      exact Reps.of_ints) (by decide) (by decide) he hpl
end
theorem Reps.mem {K : PySem.W.Frag} {H : Hp} {α : Type} {f : α → D} : ∀ {L : List α} {vs : List V} {v : V}, Reps K H (L.map f) vs → v ∈ vs → ∃ a ∈ L, Rep K H (f a) v
  | [], _, _, h, hm => by cases (show _ = [] from h); simp at hm
  | a :: L, _, v, ⟨u, us, e, h1, h2⟩, hm => by
    subst e
    rcases List.mem_cons.mp hm with e | hm
    · exact ⟨a, List.mem_cons_self, e ▸ h1⟩
    · obtain ⟨b, hb, r⟩ := Reps.mem h2 hm
      exact ⟨b, List.mem_cons_of_mem _ hb, r⟩
theorem Reps.pair {K : PySem.W.Frag} {H : Hp} {α : Type} {f : α → D} {R : V → V → Prop} {P : α → α → Prop} : ∀ {L : List α} {vs : List V}, Reps K H (L.map f) vs → vs.Pairwise R → (∀ a ∈ L, ∀ b ∈ L, ∀ x y, Rep K H (f a) x → Rep K H (f b) y → R x y → P a b) → L.Pairwise P
  | [], _, _, _, _ => .nil
  | a :: L, _, ⟨u, us, e, h1, h2⟩, hp, hP => by
    subst e
    obtain ⟨p1, p2⟩ := List.pairwise_cons.mp hp
    refine List.pairwise_cons.mpr ⟨fun b hb => ?_, Reps.pair h2 p2 fun a' ha' b' hb' => hP a' (List.mem_cons_of_mem _ ha') b' (List.mem_cons_of_mem _ hb')⟩
    obtain ⟨i, hi⟩ := List.mem_iff_getElem?.mp hb
    obtain ⟨y, hy, ry⟩ := h2.get (i := i) (d := f b) (by rw [List.getElem?_map, hi]; rfl)
    exact hP a List.mem_cons_self b (List.mem_cons_of_mem _ hb) u y h1 ry (p1 y (List.mem_of_getElem? hy))
section
variable {X : Cx} {W : WX} {H0 : Hp} {Oc : List Addr} {Γ : List Sl} {a b : Expr} {pos p p2 pos2 : Pos} {L : List (List Int)}
theorem tupI_of {K : PySem.W.Frag} {H : Hp} {O : List Addr} {ns : List Int} {v : V} (h : Rep K (cut H O) (encT ns) v) : TupI K H v ns := by
  obtain ⟨t, e, ht⟩ := rep_tup h
  exact ⟨t, e, .of (cut_ex _ _ ht)⟩
/-- sorted(list of tuples of d ints in [0, B)), fewer than 64 -/
theorem e_sortL (d : Nat) (B : Int) (hd : 1 ≤ d) (hm : X.mg "sorted" = none) (ha : Ev X H0 Oc Γ a (.bw (.lst (L.map encT)))) (hlen : L.length < 64) (hL : ∀ x ∈ L, x.length = d ∧ TS.Bd B x) (hg : Gl X "sorted" := by rfl) (he : starEach [a] X.env = (false, eval a X.env) :: starEach [] X.env := by rfl) (hpl : (backTo pos (starEach [] X.env)).any (·.1) = false := by rfl) :
    Ev X H0 Oc Γ (.Call (.Name "sorted" p) [a] [] pos) (.ow (.lst ((sortL L).map encT))) := ev_b1 (cr_sortT (d := d) (B := B) hd) ha hm (by decide +kernel) hg (fun G S H v Q ⟨O, W⟩ q => by
      obtain ⟨u, g1, t, vs, rfl, h1, h2⟩ := W.head
      cases g1
      refine ⟨t, vs, rfl, .of h1, by rw [h2.len, List.length_map]; exact hlen, fun x hx => ?_, fun ys pp m1 m2 hp => q _ _ ⟨_, W.pop.newLst hp (ds := (sortL L).map encT) ?_⟩⟩
      · obtain ⟨ns, hns, r⟩ := h2.mem hx
        exact ⟨ns, tupI_of r, hL ns hns⟩
      · obtain ⟨M, n1, n2⟩ := h2.perm m1
        have e : M = sortL L := sortL_uniq n1 (n2.pair m2 fun a ha b hb x y rx ry hR => by
          obtain ⟨l1, b1⟩ := hL a (n1.mem_iff.mp ha)
          obtain ⟨l2, b2⟩ := hL b (n1.mem_iff.mp hb)
          exact lex_code (l1.trans l2.symm) b1 b2 (hR a b (tupI_of rx) (tupI_of ry)))
        rw [← e]
        exact n2) (by decide) (by decide) he hpl
def dd {α : Type} [DecidableEq α] : List α → List α
  | [] => []
  | x :: xs => if x ∈ xs then dd xs else x :: dd xs
theorem mem_dd {α : Type} [DecidableEq α] {x : α} : ∀ {xs : List α}, x ∈ dd xs ↔ x ∈ xs
  | [] => Iff.rfl
  | y :: ys => by
    unfold dd
    split
    · rename_i h
      rw [mem_dd, List.mem_cons]
      exact ⟨.inr, fun z => z.elim (fun e => e ▸ h) id⟩
    · rw [List.mem_cons, List.mem_cons, mem_dd]
theorem nodup_dd {α : Type} [DecidableEq α] : ∀ (xs : List α), (dd xs).Nodup
  | [] => List.nodup_nil
  | y :: ys => by
    unfold dd
    split
    · exact nodup_dd ys
    · rename_i h
      exact List.nodup_cons.mpr ⟨fun z => h (mem_dd.mp z), nodup_dd ys⟩
def sortSet (L : List (List Int)) : List (List Int) := sortL (dd L)
theorem sortSet_uniq {M L : List (List Int)} (hn : M.Nodup) (hm : ∀ x, x ∈ M ↔ x ∈ L) (hp : M.Pairwise (fun a b => lexLe a b = true)) : M = sortSet L :=
  sortL_uniq ((List.perm_ext_iff_of_nodup hn (nodup_dd L)).mpr fun x => by rw [hm, mem_dd]) hp
theorem mem_sortSet {L : List (List Int)} {x : List Int} : x ∈ sortSet L ↔ x ∈ L := by
  unfold sortSet
  rw [(sortL_perm _).mem_iff, mem_dd]
theorem refs_of {K : PySem.W.Frag} {H : Hp} : ∀ {L : List (List Int)} {vs : List V}, Reps K H (L.map encT) vs → ∃ ks : List (Addr × List Int), vs = ks.map (fun p => V.ref p.1) ∧ ks.map (·.2) = L ∧ ∀ p ∈ ks, Rep K H (encT p.2) (.ref p.1)
  | [], _, h => by cases (show _ = [] from h); exact ⟨[], rfl, rfl, by simp⟩
  | a :: L, _, ⟨u, us, e, h1, h2⟩ => by
    subst e
    obtain ⟨ks, e1, e2, e3⟩ := refs_of h2
    obtain ⟨t, e, _⟩ := rep_tup h1
    subst e
    refine ⟨(t, a) :: ks, by rw [e1]; rfl, by rw [← e2]; rfl, fun p hp => ?_⟩
    rcases List.mem_cons.mp hp with e | hp
    · rw [e]; exact h1
    · exact e3 p hp
theorem reps_of {K : PySem.W.Frag} {H : Hp} : ∀ {ks : List (Addr × List Int)}, (∀ p ∈ ks, Rep K H (encT p.2) (.ref p.1)) → Reps K H ((ks.map (·.2)).map encT) (ks.map fun p => V.ref p.1)
  | [], _ => rfl
  | p :: ks, h => ⟨_, _, rfl, h p List.mem_cons_self, reps_of fun q hq => h q (List.mem_cons_of_mem _ hq)⟩
/-- sorted(set(list of tuples of d ints in [0, B))) -/
theorem e_sortSet (d : Nat) (B : Int) (hd : 1 ≤ d) (hm : X.mg "sorted" = none) (hm2 : X.mg "set" = none) (hc : X.calm = true) (hu : X.A.units + 64 < cLine) (ha : Ev X H0 Oc Γ a (.bw (.lst (L.map encT)))) (hlen : L.length < 64) (hL : ∀ x ∈ L, x.length = d ∧ TS.Bd B x) (hg : Gl X "sorted" := by rfl) (hg2 : Gl X "set" := by rfl)
    (he : starEach [.Call (.Name "set" p2) [a] [] pos2] X.env = (false, eval (.Call (.Name "set" p2) [a] [] pos2) X.env) :: starEach [] X.env := by rfl) (hpl : (backTo pos (starEach [] X.env)).any (·.1) = false := by rfl)
    (he2 : starEach [a] X.env = (false, eval a X.env) :: starEach [] X.env := by rfl) (hpl2 : (backTo pos2 (starEach [] X.env)).any (·.1) = false := by rfl) :
    Ev X H0 Oc Γ (.Call (.Name "sorted" p) [.Call (.Name "set" p2) [a] [] pos2] [] pos) (.ow (.lst ((sortSet L).map encT))) := fun Δ τ σ H Q hl w kk => by
  refine wpE.of (pe_callB (cr_sortedT hc) hg hm (by decide +kernel) (pa_cons (pe_callTy (cr_setOfT hc hu) hg2 hm2 (by decide +kernel) (pa_cons pe_wp pa_nil he2) (by decide) (by decide) he2 hpl2) pa_nil he) (by decide) (by decide) he hpl) ?_
  refine ha Δ τ σ H _ hl w fun v H1 ⟨O, w1⟩ => ?_
  obtain ⟨u, g1, t, vs, rfl, h1, h2⟩ := w1.head
  cases g1
  obtain ⟨ks, rfl, k2, k3⟩ := refs_of h2
  have st : ∀ p ∈ ks, SqT X.K H1 p.1 (p.2.map V.int) := fun p hp => by
    obtain ⟨t, e, ht⟩ := rep_tup (k3 p hp)
    cases e
    exact .of (cut_ex _ _ ht)
  have kl : ks.length < 64 := by rw [← List.length_map (f := (·.2)), k2]; exact hlen
  refine ⟨t, ks, rfl, .of h1, st, kl, fun sa S na s1 s2 => ?_⟩
  have gr : Ex H1 (upd H1 sa (SetTO X.prog X.w sa S)) := Ex.new na
  refine ⟨sa, S, d, B, rfl, upd_same, fun p hp => Ex.t gr (st p (s1 p hp)), hd, fun p hp => hL p.2 (by rw [← k2]; exact List.mem_map.mpr ⟨p, s1 p hp, rfl⟩), fun L' pp m1 m2 m3 m4 hp => ?_⟩
  have e : L'.map (·.2) = sortSet L := by
    refine sortSet_uniq m2 (fun x => ?_) ?_
    · constructor
      · intro hx
        obtain ⟨q, hq, e⟩ := List.mem_map.mp hx
        rw [← k2, ← e]
        exact List.mem_map.mpr ⟨q, s1 q (m1.mem_iff.mp hq), rfl⟩
      · intro hx
        rw [← k2] at hx
        obtain ⟨q, hq, e⟩ := List.mem_map.mp hx
        obtain ⟨q', hq', e'⟩ := List.mem_map.mp (s2 q hq)
        exact List.mem_map.mpr ⟨q', m1.mem_iff.mpr hq', e'.trans e⟩
    · refine List.pairwise_map.mpr (List.Pairwise.imp_of_mem (fun {q r} hq hr hcd => ?_) m4)
      have z : ∀ q ∈ L', q.2 ∈ L := fun q hq => by rw [← k2]; exact List.mem_map.mpr ⟨q, s1 q (m1.mem_iff.mp hq), rfl⟩
      obtain ⟨l1, b1⟩ := hL q.2 (z q hq)
      obtain ⟨l2, b2⟩ := hL r.2 (z r hr)
      exact lex_code (l1.trans l2.symm) b1 b2 hcd
  have w2 := w1.pop.grow gr
  refine kk _ _ ⟨_, w2.newLst hp (ds := (sortSet L).map encT) ?_⟩
  rw [← e]
  refine reps_of fun q hq => Rep.mono (cut_mono gr) (k3 q (s1 q (m1.mem_iff.mp hq)))
end
end Y

namespace Y
open PySem PySem.Spec PyProof.Rows L2
section
variable {X : Cx} {W : WX} {H0 : Hp} {Oc : List Addr} {Γ : List Sl} {a b tg elt : Expr} {d : D} {ds : List D} {i j : Int} {pos p p2 pos2 : Pos} {s : Sl} {rest : List Stmt} {out : Out}
theorem it_enT {K : PySem.W.Frag} {l : Addr} (hs : s.held = some (.tup ds)) : ItOk K H0 Oc (EnT.Iet K l) [s] [some (.ref l)] (enumD ds) := by
  refine ⟨rfl, held_stab hs, fun i Δp G τp S H hp hi ⟨O, w⟩ => ?_, fun i Δp G τp S H hp hi ⟨O, w⟩ => ?_⟩
  · obtain ⟨l', vs, e, g1, g2⟩ := held_b w.ex (w.drop hp).head hs
    cases e
    rw [enumD_len] at hi
    obtain ⟨d', v', e1, e2, rv⟩ := g2.lt_get hi
    refine ⟨⟨vs, v', .of g1, e2⟩, fun x H' y => ?_⟩
    obtain ⟨T, z, ex, hT, eH, y⟩ := y
    subst eH
    subst ex
    have e3 := y vs (.of g1)
    rw [e2] at e3
    cases e3
    exact ⟨_, enumD_get e1, O, w.newTup hT (Reps.cons (show Rep K _ (.int (i : Int)) (.int (i : Int)) from rfl) (Reps.one rv))⟩
  · obtain ⟨l', vs, e, g1, g2⟩ := held_b w.ex (w.drop hp).head hs
    cases e
    rw [enumD_len] at hi
    exact ⟨vs, .of g1, by rw [g2.len]; exact hi⟩
/-- enumerate(tuple) -/
theorem i_enT {α : Type} (enc : α → D) (xs : List α) {elts : List Expr} {kk : Nat} {tpos : Pos} (hm : X.mg "enumerate" = none) (ha : Ev X H0 Oc Γ a s) (hs : s.held = some (.tup (xs.map enc)) := by rfl) (hg : Gl X "enumerate" := by rfl) (hst : starEach [a] X.env = [(false, eval a X.env)] := by rfl) (hst' : starEach [a] X.env = (false, eval a X.env) :: starEach [] X.env := by rfl) :
    Ei X H0 Oc Γ (.Tuple elts kk tpos) (.Call (.Name "enumerate" p) [a] [] pos) ((enumF 0 xs).map fun p => .tup [.int (p.1 : Int), enc p.2]) :=
  Ei.as ⟨_, EnT.pi_enT hg hm (pa_cons pe_wp pa_nil hst') hst, fun Δ τ σ H R hl w k => ha Δ τ σ H _ hl w fun v H1 w1 => by
    obtain ⟨O, w1'⟩ := id w1
    obtain ⟨l, vs, rfl, h1, h2⟩ := held_b w1'.ex w1'.head hs
    exact ⟨l, vs, rfl, .of h1, k _ [s] [some (.ref l)] H1 (fun _ _ => it_enT hs) (held_arg hs) w1⟩⟩ (enumD_map enc xs)
/-- range(a, b) as numbers -/
theorem i_rng2 {i j : Nat} (hm : X.mg "range" = none) (ha : Ev X H0 Oc Γ a (.va (.int (i : Int)))) (hb : Ev X H0 Oc Γ b (.va (.int (j : Int)))) (h1 : i ≤ 1000000000) (h2 : j ≤ 1000000000) (hg : Gl X "range" := by rfl)
    (hs : starEach [a, b] X.env = (false, eval a X.env) :: starEach [b] X.env := by rfl) (hs2 : starEach [b] X.env = (false, eval b X.env) :: starEach [] X.env := by rfl) (hs' : starEach [a, b] X.env = [(false, eval a X.env), (false, eval b X.env)] := by rfl) :
    Ei X H0 Oc Γ tg (.Call (.Name "range" p) [a, b] [] pos) ((List.range (j - i)).map fun k : Nat => D.int ((i + k : Nat) : Int)) :=
  (ei_rng2 ha hb ⟨by omega, by omega, by omega, by omega⟩ hm hg (hs1 := hs) (hs2 := hs2)).as (by
    unfold rngD
    rw [show (((j : Int) - (i : Int)).toNat) = j - i by omega]
    exact List.map_congr_left fun k _ => by rw [Int.natCast_add])
/-- list(range(n)) -/
theorem e_listRg {n : Nat} (hm : X.mg "list" = none) (hm2 : X.mg "range" = none) (hc : X.calm = true) (ha : Ev X H0 Oc Γ a (.va (.int (n : Int)))) (hn : n ≤ 1000000) (hg : Gl X "list" := by rfl) (hg2 : Gl X "range" := by rfl)
    (he : starEach [.Call (.Name "range" p2) [a] [] pos2] X.env = (false, eval (.Call (.Name "range" p2) [a] [] pos2) X.env) :: starEach [] X.env := by rfl) (he2 : starEach [a] X.env = (false, eval a X.env) :: starEach [] X.env := by rfl) :
    Ev X H0 Oc Γ (.Call (.Name "list" p) [.Call (.Name "range" p2) [a] [] pos2] [] pos) (.ow (.lst ((List.range n).map fun k : Nat => .int k))) := fun Δ τ σ H Q hl w kk => by
  refine wpE.of (pe_listRg hc hg hm (prg_1 hg2 hm2 pe_wp he2) he) ?_
  refine ha Δ τ σ H _ hl w fun v H1 ⟨O, w1⟩ => ?_
  obtain ⟨u, g1, r⟩ := w1.head
  cases g1
  obtain rfl : v = .int (n : Int) := r
  refine ⟨n, rfl, .of_le (by omega) (by omega) (by omega) (by omega), fun pp hp => kk _ _ ⟨_, w1.pop.newLst hp (ds := (List.range n).map fun k : Nat => .int k) ?_⟩⟩
  have e : rgV 0 (n : Int) = (((List.range n).map fun k : Nat => (k : Int)).map V.int) := by
    unfold rgV
    rw [show ((n : Int) - 0).toNat = n by omega, List.map_map]
    exact List.map_congr_left fun k _ => by show V.int (0 + (k : Int)) = V.int (k : Int); rw [Int.zero_add]
  rw [e, show ((List.range n).map fun k : Nat => D.int (k : Int)) = ((List.range n).map fun k : Nat => (k : Int)).map .int by rw [List.map_map]; rfl]
  exact Reps.of_ints
/-- all([..]), any([..]) -/
theorem e_allL {α : Type} {xs : List α} (f : α → Bool) (hm : X.mg "all" = none) (hc : X.calm = true) (ha : Ev X H0 Oc Γ a (.ow (.lst (xs.map fun x => .bl (f x))))) (hg : Gl X "all" := by rfl) (he : starEach [a] X.env = (false, eval a X.env) :: starEach [] X.env := by rfl) (hpl : (backTo pos (starEach [] X.env)).any (·.1) = false := by rfl) :
    Ev X H0 Oc Γ (.Call (.Name "all" p) [a] [] pos) (.va (.bl (xs.all f))) := by
  have e : (xs.map fun x => D.bl (f x)) = (xs.map f).map .bl := by rw [List.map_map]; rfl
  have := e_all (pos := pos) (p := p) hm hc ((Ev.aso ha (congrArg D.lst e)).r) hg he hpl
  rw [List.all_map] at this
  exact this
theorem e_anyL {α : Type} {xs : List α} (f : α → Bool) (hm : X.mg "any" = none) (hc : X.calm = true) (ha : Ev X H0 Oc Γ a (.ow (.lst (xs.map fun x => .bl (f x))))) (hg : Gl X "any" := by rfl) (he : starEach [a] X.env = (false, eval a X.env) :: starEach [] X.env := by rfl) (hpl : (backTo pos (starEach [] X.env)).any (·.1) = false := by rfl) :
    Ev X H0 Oc Γ (.Call (.Name "any" p) [a] [] pos) (.va (.bl (xs.any f))) := by
  have e : (xs.map fun x => D.bl (f x)) = (xs.map f).map .bl := by rw [List.map_map]; rfl
  have := e_any (pos := pos) (p := p) hm hc ((Ev.aso ha (congrArg D.lst e)).r) hg he hpl
  rw [List.any_map] at this
  exact this
/-- x in list, x not in list -/
theorem pys_map {α : Type} {f : α → D} : ∀ xs : List α, pys (xs.map f) = xs.map fun x => py (f x)
  | [] => rfl
  | x :: xs => by show py (f x) :: pys (xs.map f) = _; rw [pys_map xs]; rfl
theorem any_eq {α : Type} [DecidableEq α] {f : α → D} (h : EqC f) (x : α) : ∀ xs : List α, ((xs.map fun z => py (f z)).any fun z => PyData.eqv z (py (f x))) = decide (x ∈ xs)
  | [] => rfl
  | z :: zs => by
    show (eqD (f z) (f x) || (zs.map fun z => py (f z)).any _) = _
    rw [h z x, any_eq h x zs]
    by_cases e : z = x
    · simp [e]
    · simp [e, Ne.symm e]
theorem c_in {α : Type} [DecidableEq α] {f : α → D} (hu : X.A.units + 65 < cLine) (h : EqC f) (n : Nat) (hk : ∀ x, okN n (f x)) (hn : n + 1 ≤ 64) (x : α) (xs : List α) : C2 X H0 Oc .In (.bw (f x)) (.bw (.lst (xs.map f))) (decide (x ∈ xs)) := ⟨_, op_inD hu, fun G S H v w Q ⟨O, W⟩ q => by
  obtain ⟨r1, r2, W'⟩ := bw2 W
  have k1 := Bool.and_eq_true_iff.mp ((hk x).ok (by omega))
  have k2 := Bool.and_eq_true_iff.mp ((okN_lst (okN_map (xs := xs) hk)).ok hn)
  have e : py (.lst (xs.map f)) = .list (xs.map fun z => py (f z)) := by show PyData.list (pys (xs.map f)) = _; rw [pys_map]
  have d2 := r2.dp cut_ex k2.1
  rw [e] at d2
  have s2 := k2.2
  rw [e] at s2
  refine ⟨_, _, r1.dp cut_ex k1.1, d2, k1.2, s2, ?_⟩
  rw [any_eq h]
  exact q H ⟨O, W'⟩⟩
theorem c_nin {α : Type} [DecidableEq α] {f : α → D} (hu : X.A.units + 65 < cLine) (h : EqC f) (n : Nat) (hk : ∀ x, okN n (f x)) (hn : n + 1 ≤ 64) (x : α) (xs : List α) : C2 X H0 Oc .NotIn (.bw (f x)) (.bw (.lst (xs.map f))) (!decide (x ∈ xs)) := ⟨_, op_notInD hu, fun G S H v w Q ⟨O, W⟩ q => by
  obtain ⟨r1, r2, W'⟩ := bw2 W
  have k1 := Bool.and_eq_true_iff.mp ((hk x).ok (by omega))
  have k2 := Bool.and_eq_true_iff.mp ((okN_lst (okN_map (xs := xs) hk)).ok hn)
  have e : py (.lst (xs.map f)) = .list (xs.map fun z => py (f z)) := by show PyData.list (pys (xs.map f)) = _; rw [pys_map]
  have d2 := r2.dp cut_ex k2.1
  rw [e] at d2
  have s2 := k2.2
  rw [e] at s2
  refine ⟨_, _, r1.dp cut_ex k1.1, d2, k1.2, s2, ?_⟩
  rw [any_eq h]
  exact q H ⟨O, W'⟩⟩
theorem hu65 {A : Around} {k : Nat} (hr : Room k A) : A.units + 65 < cLine := by
  have := hr.un
  omega
theorem tw_two {x z : Str} {p3 : Pos} {kk : Nat} {d1 d2 : D} {vs : List Nat} (n1 n2 : Nat) (hc : X.calm = true) (hN : X.N.Nodup) (h1 : X.N[n1]? = some x := by rfl) (h2 : X.N[n2]? = some z := by rfl) (hx : Loc X.env.scope x := by first | exact .inl rfl | exact .inr rfl) (hz : Loc X.env.scope z := by first | exact .inl rfl | exact .inr rfl) (hf : X.fn x = true ∨ X.env.scope.names.lookup x = some .local := by first | exact .inr rfl | exact .inl rfl) (hg : X.fn z = true ∨ X.env.scope.names.lookup z = some .local := by first | exact .inr rfl | exact .inl rfl) (hv1 : n1 ∈ vs := by simp) (hv2 : n2 ∈ vs := by simp) :
    Tgw X H0 Oc vs (.Tuple [.Name x p, .Name z p2] kk p3) Γ (.va (.tup [d1, d2])) ((Γ.set n1 (.va d1)).set n2 (.va d2)) := tgw_tup2 n1 n2 hc hN h1 h2 hx hz hf hg hv1 hv2
end
theorem okT (ns : List Int) : okN 1 (encT ns) := okN_tup (okN_map fun _ => okN_int)
theorem eqT' : EqC encT := eqC_tup eqC_int
theorem okI (n : Int) : okN 0 (D.int n) := okN_int
theorem okLI (ns : List Int) : okN 1 (D.lst (ns.map .int)) := okN_lst (okN_map fun _ => okN_int)
theorem eqLI : EqC fun ns : List Int => D.lst (ns.map .int) := eqC_lst eqC_int
theorem okLT (ns : List (List Int)) : okN 2 (D.lst (ns.map encT)) := okN_lst (okN_map okT)
theorem eqLT : EqC fun ns : List (List Int) => D.lst (ns.map encT) := eqC_lst eqT'
end Y

namespace Y
open PySem PySem.Spec PyProof.Rows L2
/-! ## the built-in names that stand for themselves -/
structure Bi (mg : Str → Option Value) : Prop where
  len : mg "len" = none
  int : mg "int" = none
  tuple : mg "tuple" = none
  range : mg "range" = none
  list : mg "list" = none
  enum : mg "enumerate" = none
  isi : mg "isinstance" = none
  bool : mg "bool" = none
  all : mg "all" = none
  any : mg "any" = none
  min : mg "min" = none
  max : mg "max" = none
  sorted : mg "sorted" = none
  set : mg "set" = none
  vE : mg "ValueError" = none
theorem bt_list : bootBuiltins ("list" : Str) = some (.type "list") := by decide +kernel
theorem bt_tuple : bootBuiltins ("tuple" : Str) = some (.type "tuple") := by decide +kernel
theorem bt_int : bootBuiltins ("int" : Str) = some (.type "int") := by decide +kernel
theorem bt_bool : bootBuiltins ("bool" : Str) = some (.type "bool") := by decide +kernel
theorem bt_str : bootBuiltins ("str" : Str) = some (.type "str") := by decide +kernel
theorem bt_ve : bootBuiltins ("ValueError" : Str) = some (.type "ValueError") := by decide +kernel
theorem ki_ll : PySem.W.kitOne [] (.type "list") (.type "list") = some true := by decide +kernel
theorem ki_tt : PySem.W.kitOne [] (.type "tuple") (.type "tuple") = some true := by decide +kernel
theorem ki_ii : PySem.W.kitOne [] (.type "int") (.type "int") = some true := by decide +kernel
theorem ki_ib : PySem.W.kitOne [] (.type "int") (.type "bool") = some false := by decide +kernel
theorem ki_bb : PySem.W.kitOne [] (.type "bool") (.type "bool") = some true := by decide +kernel
theorem ki_ss : PySem.W.kitOne [] (.type "str") (.type "str") = some true := by decide +kernel
theorem kit_self {K : PySem.W.Frag} {C : Addr} : PySem.W.kitOne K (.ref C) (.ref C) = some true := by
  unfold PySem.W.kitOne
  rw [if_pos (by simp)]
/-- a slot with these data -/
def One (s0 : Sl) (d : D) : Prop := s0.dat = some d
theorem rng_lt {n k : Nat} {pre post : List Nat} (h : List.range n = pre ++ k :: post) : k < n := by
  have : k ∈ List.range n := by rw [h]; simp
  exact List.mem_range.mp this
theorem ixN_last {n : Nat} (h : 0 < n) : L2.ixN n (-1) = some (n - 1) := by
  unfold L2.ixN
  rw [if_neg (by decide), if_pos (by omega)]
  congr 1
  omega
theorem ixN_nat {n k : Nat} (h : k < n) : L2.ixN n (k : Int) = some k := by
  unfold L2.ixN
  rw [if_pos (by omega), if_pos (by omega)]
  simp
theorem sds_nilq {X : Cx} {W : WX} {H0 : Hp} {Oc : List Addr} {Γ Γ1 : List Sl} (e : Γ = Γ1) : Sds X W H0 Oc Γ [] (.nx Γ1) := e ▸ sds_nil
/-! ## defs called in an except suite -/
open L2H
structure FnGH (Pr : Program) (w : World) (K : PySem.W.Frag) (mg : Str → Option Value) (base : Heap) (x : Str) (k : Nat) (ps : List Str) (P : Pm) : Prop where
  ex : ∃ f fd, FnH Pr w K mg base (L2N.CX Pr w) k f fd ps (mkSp K P) ∧ mg x = some (.ref f) ∧ PySem.W.keepIn K (.ref f) = true ∧ L2.Binds K fd ps []
section
variable {Pr : Program} {w : World} {K : PySem.W.Frag} {mg : Str → Option Value} {base : Heap}
theorem fn_sdsH {x qual : Str} {st : Stmt} {f : Addr} {fd : FuncData} {N ps : List Str} {k : Nat} {P : Pm} (F : Fun K x qual st f fd) (S : FnScope N ps (defScope st)) (hlen : ∀ Γ o, P Γ o → Γ.length = ps.length)
    (hb : ∀ (cdv : Value) (A : Around) (outer : List Env) (s : Shared) (H : Hp) (E : XK) (p : Addr × Obj), Hot1 A p → RoomH k (A.deeper (envOfC qual (defScope st) s.heap.objs.size f cdv)) → ∀ (H0 : Hp) (Oc : List Addr) (Γ : List Sl) (o : Out), P Γ o →
      ∃ o', Sds (cxH (L2N.CX Pr w) Pr w K mg base N qual (defScope st) f cdv A outer s H E p) (wx E) H0 Oc (Γ ++ List.replicate (N.length - ps.length) .no) (defBody st) o' ∧ Fin o' o) :
    FnH Pr w K mg base (L2N.CX Pr w) (k + 1) f fd ps (mkSp K P) := by
  obtain ⟨oc, od, kV, doc, pm, an, cdv, ct, osl, rfl, lk, hcd⟩ := F.ex
  have len : ∀ vs H Q E, mkSp K P vs H Q E → vs.length = ps.length := fun vs H Q E ⟨Oc, Γ, o, hp, ⟨O, w⟩, _⟩ => by
    rw [← hlen Γ o hp, ← w.len, List.length_map]
  refine fn_ofH lk hcd S len fun A outer s H vs Q E p hot hr hsp => ?_
  have hl := len vs H Q E hsp
  obtain ⟨Oc, Γ, o, hp, ⟨O, w0⟩, sat⟩ := hsp
  obtain ⟨o', hS, fin⟩ := hb cdv A outer s H E p hot hr H Oc Γ o hp
  refine ⟨wpSs _ _, pss_wp, hS [] [] (L2.start N vs) H _ rfl rfl ⟨O, ?_⟩ ?_⟩
  · unfold L2.start
    rw [← hl]
    exact w0.pad _
  · match o', fin with
    | .nx Γ', fin =>
      subst fin
      exact fun σ H' ⟨O', w'⟩ => sat .non H' (Wf.only ⟨O', w'.flat rfl (show Rep K H' .non .non from rfl)⟩)
    | .ret s', fin =>
      subst fin
      exact sat
    | .exc C ns ds Γe, fin =>
      obtain ⟨Γe', rfl⟩ := fin
      intro d σ H' xw
      refine sat d H' ?_
      cases Γe with
      | none => exact xw
      | some Γ2 => exact Wf.only (show Wf K H Oc (.va (.xd ns ds) :: ([] ++ Γ2)) (some (.ref d) :: ([] ++ σ)) H' from xw)
end
theorem hot_suite {X : Cx} {a C dd : Addr} {oe : Obj} {pn : List (Addr × Obj)} (hz : L2N.Zn (.ref C) (some dd) oe) (hf : ∃ vs, oe.data = .fields vs) : HotC (X.suite a ((a, oe) :: pn)) := by
  obtain ⟨vs, hv⟩ := hf
  exact ⟨(a, oe), ⟨rfl, vs, hv, hz.2.2 vs hv⟩, List.mem_cons_self⟩
theorem ev_callH {X : Cx} {H0 : Hp} {Oc : List Addr} {Γ : List Sl} {e : Expr} {es : List Expr} {ss : List Sl} {s : Sl} {x : Str} {k : Nat} {ps : List Str} {P : Pm} {p pos : Pos} {ad C dd : Addr} {oe : Obj} {pn : List (Addr × Obj)} (hz : L2N.Zn (.ref C) (some dd) oe) (hf : ∃ vs, oe.data = .fields vs)
    (F : FnGH X.prog X.w X.K X.mg X.base x k ps P) (hr : RoomH k X.A) (ha : Ea (X.suite ad ((ad, oe) :: pn)) H0 Oc Γ (e :: es) ss) (hp : P (ss.map Sl.arg) (.ret s)) (hs : s.res = true := by rfl) (hg : Gl X x := by rfl) (hdb : (x == ("__debug__" : Str)) = false := by decide)
    (he : starEach (e :: es) X.env = (false, eval e X.env) :: starEach es X.env := by rfl) (hpl : (backTo pos (starEach es X.env)).any (·.1) = false := by rfl) : Ev (X.suite ad ((ad, oe) :: pn)) H0 Oc Γ (.Call (.Name x p) (e :: es) [] pos) s := fun Δ τ σ H Q hl W q => by
  obtain ⟨f, fd, F, hm, hk, hb⟩ := F.ex
  refine wpE.of (L2H.pe_callH (X := X.suite ad ((ad, oe) :: pn)) (E := fun _ => E0) F ⟨hr.dp, hr.un⟩ (hot_suite hz hf) hg hm hk hb (fun σ pins H s e s' I c => (passLN (X := X.suite ad ((ad, oe) :: pn))) pins σ H s e s' I c) pa_wp hdb he hpl) ?_
  refine ha Δ τ σ H _ hl W fun vs O H1 W1 ok => ?_
  exact ⟨O, _, _, hp, W1.callee ok, fun v H' W2 => q v H' (W1.after W2 hs)⟩
end Y

namespace Y
open PySem PySem.Spec PyProof.Rows L2
section
variable {X : Cx} {W : WX} {H0 : Hp} {Oc : List Addr} {Γ : List Sl} {x y z : Str} {p p2 p3 p4 p5 pos : Pos} {d1 d2 d3 : D} {k1 k2 : Nat} {i : Int}
/-- a constant of the module -/
theorem e_gint (hm : ∃ t, X.mg x = some (.int i t)) (hg : Gl X x := by rfl) (hd : (x == ("__debug__" : Str)) = false := by decide) : Ev X H0 Oc Γ (.Name x pos) (.va (.int i)) := by
  obtain ⟨t, hm⟩ := hm
  exact ev_flat (pe_glob (v := .int i) hg hm ⟨t, rfl⟩ hd) (fun _ _ _ q => q) rfl fun _ => rfl
/-- i, (a, b) = .. -/
theorem t_nest (n1 n2 n3 : Nat) (hc : X.calm = true) (hN : X.N.Nodup) (h1 : X.N[n1]? = some x := by rfl) (h2 : X.N[n2]? = some y := by rfl) (h3 : X.N[n3]? = some z := by rfl) (hx : Loc X.env.scope x := by first | exact .inl rfl | exact .inr rfl) (hy : Loc X.env.scope y := by first | exact .inl rfl | exact .inr rfl) (hz : Loc X.env.scope z := by first | exact .inl rfl | exact .inr rfl)
    (fx : X.fn x = true ∨ X.env.scope.names.lookup x = some .local := by first | exact .inr rfl | exact .inl rfl) (fy : X.fn y = true ∨ X.env.scope.names.lookup y = some .local := by first | exact .inr rfl | exact .inl rfl) (fz : X.fn z = true ∨ X.env.scope.names.lookup z = some .local := by first | exact .inr rfl | exact .inl rfl) :
    Tg X H0 Oc (.Tuple [.Name x p, .Tuple [.Name y p2, .Name z p3] k1 p4] k2 p5) Γ (.va (.tup [d1, .tup [d2, d3]])) (((Γ.set n1 (.va d1)).set n2 (.va d2)).set n3 (.va d3)) := fun Δ τ σ H v Q hl st ⟨O, w⟩ k => by
  refine wpG.of (pg_tup (n := 2) hc (pgs_cons (pg_name hN h1 hx fx) (pgs_cons (pg_tup (n := 2) hc (pgs_cons (pg_name hN h2 hy fy) (pgs_cons (pg_name hN h3 hz fz) pgs_nil))) pgs_nil))) ?_
  obtain ⟨u, e, a, vs, rfl, ha, hr⟩ := w.head
  cases e
  obtain ⟨v1, us, rfl, r1, v2, us2, rfl, r2, e3⟩ := hr
  cases e3
  obtain ⟨b, ws, rfl, hb, q1, us3, rfl, s1, q2, us4, rfl, s2, e4⟩ := r2
  cases e4
  refine ⟨a, _, rfl, .of (cut_ex _ _ ha), rfl, v1, [.ref b], rfl, .ref b, [], rfl, ⟨b, _, rfl, .of (cut_ex _ _ hb), rfl, q1, [q2], rfl, q2, [], rfl, rfl, rfl, k _ H ⟨O, ?_⟩⟩⟩
  have w1 := (w.pop.push (s := .va d1) (y := some v1) ⟨v1, rfl, r1⟩ fun _ z => nomatch z).set (n := n1) hl
  have w2 := (w1.push (s := .va d2) (y := some q1) ⟨q1, rfl, s1⟩ fun _ z => nomatch z).set (n := n2) hl
  exact (w2.push (s := .va d3) (y := some q2) ⟨q2, rfl, s2⟩ fun _ z => nomatch z).set (n := n3) hl
end
end Y

namespace TrV
open PySem PySem.Spec PyProof.Rows L2 HT
/-! ## t[::-1] of a tuple -/
section
variable {prog : Program} {w : World} {A : Around} {E : Value → Shared → Prop} {s : Shared}
theorem back_at (n : Nat) : Builtin.Slice.sliceAdjust none none (-1) (n : Int) = ((n : Int) - 1, -1) := rfl
theorem back_n (n : Nat) : Builtin.Slice.slicePlaces ((n : Int) - 1) (-1) (-1) = n := by
  unfold Builtin.Slice.slicePlaces
  rw [if_neg (by decide), show (-(-1) : Int) = 1 from rfl, Int.ediv_one]
  split <;> omega
theorem fm_congr {α β : Type} {f g : α → Option β} : ∀ {l : List α}, (∀ x ∈ l, f x = g x) → l.filterMap f = l.filterMap g
  | [], _ => rfl
  | x :: l, h => by
    rw [List.filterMap_cons, List.filterMap_cons, h x (by simp), fm_congr fun y hy => h y (by simp [hy])]
theorem pick_back (xs : Array Value) : (List.range xs.size).filterMap (fun (k : Nat) => xs[((xs.size : Int) - 1 + (k : Int) * (-1)).toNat]?) = xs.toList.reverse := by
  have h := congrArg List.reverse (PySem.W.krv_all xs)
  rw [← h, ← List.filterMap_reverse, ← PySem.W.krv_range, List.filterMap_map]
  refine fm_congr fun k hk => ?_
  have := List.mem_range.mp hk
  show xs[((xs.size : Int) - 1 + (k : Int) * (-1)).toNat]? = xs[xs.size - 1 - k]?
  rw [show ((xs.size : Int) - 1 + (k : Int) * (-1)).toNat = xs.size - 1 - k by omega]
theorem cut_back {sl : Addr} {v : Value} {n : Nat} {Q : Int × Int × Nat → Shared → Prop} (hs : s.heap.IsSliceOf sl .none .none v) (pv : IsPart v (some (-1)))
    (h : Q ((n : Int) - 1, -1, n) s) : wpAny (model prog w) A (Builtin.Slice.sliceApplied (.ref sl) (pure (n : Int))) Q E s := by
  obtain ⟨os, hos, hcs, hds⟩ := id hs
  unfold Builtin.Slice.sliceApplied Builtin.Slice.sliceFields
  refine wpAny_bind (wpAny_bind (wpAny_field hos hds (x := .none) rfl (wpAny_bind (wpAny_field hos hds (x := .none) rfl (wpAny_bind (wpAny_field hos hds (x := v) rfl (wpAny_pure ?_)))))))
  refine wpAny_bind (slicePart_ pv ?_)
  show wpAny _ _ (if ((-1 : Int) == 0) = true then _ else _) _ _ s
  rw [if_neg (by decide)]
  refine wpAny_bind (slicePart_none (wpAny_bind (slicePart_none (wpAny_bind (wpAny_pure ?_)))))
  show wpAny _ _ (match Builtin.Slice.sliceAdjust none none (-1) (n : Int) with | (lo, hi) => pure (lo, (-1 : Int), Builtin.Slice.slicePlaces lo hi (-1))) _ _ s
  rw [back_at]
  show wpAny _ _ (pure ((n : Int) - 1, (-1 : Int), Builtin.Slice.slicePlaces ((n : Int) - 1) (-1) (-1))) _ _ s
  rw [back_n]
  exact wpAny_pure h
theorem item_back {t sl : Addr} {items : Array Value} {v : Value} {Q : Value → Shared → Prop} (ht : IsTup s.heap t items) (hs : s.heap.IsSliceOf sl .none .none v) (pv : IsPart v (some (-1)))
    (h : Q (.ref s.heap.objs.size) { s with heap := s.heap.push { cls := .type "tuple", data := .seq items.toList.reverse.toArray } })
    (hsz : items.size ≤ sizeLine) : wpAny (model prog w) A (getItem (.ref t) (.ref sl)) Q E s := by
  have htake : sizeOk (.seq items.toList.reverse.toArray) := by
    show items.toList.reverse.toArray.size ≤ sizeLine
    rw [List.size_toArray, List.length_reverse, Array.length_toList]
    omega
  obtain ⟨os, hos, hcs, hds⟩ := id hs
  have hTs : s.TypeIs (.ref sl) "slice" := ⟨os, hos, hcs⟩
  unfold getItem
  try with_reducible refine wpAny_holding ?_
  first | refine wpAny_bind (wpAny_pure ?_) | skip
  refine wpAny_bind (wpAny_sequenceKey ht.typeIs (by decide) ?_)
  refine wpAny_bind (wpAny_callSpecial?_slot (name := Str.ofString "__getitem__") ht.typeIs PyProof.Rows.slot_tuple_getitem
    (wpAny_call_entry PyProof.Rows.slot_tuple_getitem ht.typeIs entry_tuple_getitem ?_ (args_tuple_getitem _ _)))
  show wpAny _ _ (Builtin.Tuple.tupleItemsOf (.ref t) >>= _) _ _ s
  refine wpAny_bind (tupleItemsOf_ ht ?_)
  refine wpAny_bind (wpAny_typeOf hTs ?_)
  rw [if_pos (by decide)]
  refine wpAny_bind (cut_back hs pv ?_)
  have hno : ¬ ((((items.size : Int) - 1) == 0 && (-1 : Int) == 1 && items.size == items.size) = true) := by
    intro q
    rw [Bool.and_eq_true, Bool.and_eq_true] at q
    exact absurd q.1.2 (by decide)
  show wpAny _ _ (if (((items.size : Int) - 1) == 0 && (-1 : Int) == 1 && items.size == items.size) = true then _ else _) _ _ s
  rw [if_neg hno, pick_back]
  first
    | exact wpAny_bind (m := Builtin.Tuple.tupleExact _) (wpAny_newObj_type (wpAny_pure ⟨_, rfl, wpAny_pure h⟩) htake)
    | exact wpAny_bind (m := Builtin.Tuple.tupleExact _) (wpAny_newObj_type (wpAny_bind (wpAny_pure (wpAny_pure ⟨_, rfl, wpAny_pure h⟩))) htake)
    | exact wpAny_bind (wpAny_bind (m := Builtin.Tuple.tupleExact _) (wpAny_newObj_type (wpAny_pure (wpAny_pure ⟨_, rfl, wpAny_pure h⟩)) htake))
    | exact wpAny_bind (wpAny_bind (m := Builtin.Tuple.tupleExact _) (wpAny_newObj_type (wpAny_pure ⟨_, rfl, wpAny_pure h⟩) htake))
end
section
variable {X : Cx}
def tBack (K : PySem.W.Frag) (te : TE) : TE := fun σ H Q => te σ H fun x H1 => ∃ a xs, x = .ref a ∧ SqT K H1 a xs ∧ ∀ p, H1 p = none → Q (.ref p) (upd H1 p (.tup xs.reverse))
theorem pe_back {e : Expr} {te : TE} {k : Nat} {p1 p2 p3 pos : Pos} (he : PE X e te) : PE X (.Subscript e (.Slice none none (some (.UnaryOp .USub (.Constant (.int 1) k p1) p2)) p3) pos) (tBack X.K te) := by
  refine ⟨fun pins s σ H Q I h => ?_⟩
  refine Subscript_ (thn (he.run pins s σ H _ I h) fun v s1 ⟨x, H1, I1, r1, q1⟩ => ?_)
  obtain ⟨a, xs, ex, hx, q⟩ := q1
  subst ex
  cases r1
  have hst : PO X (some (.UnaryOp .USub (.Constant (.int 1) k p1) p2)) (tPart (tUn (rU fun i => .int (-i)) (tC (.int 1)))) := po_some (pe_un un_neg pe_int)
  refine wpAny_Slice (thn (po_none.run pins s1 σ H1 (fun o H2 => o = none ∧ H2 = H1) I1 ⟨rfl, rfl⟩) fun vl s2 ⟨l, H2, I2, pl, el, e2⟩ => ?_)
  subst el e2
  refine thn (po_none.run pins s2 σ H2 (fun o H3 => o = none ∧ H3 = H2) I2 ⟨rfl, rfl⟩) fun vu s3 ⟨u, H3, I3, pu, eu, e3⟩ => ?_
  subst eu e3
  refine thn (hst.run pins s3 σ H3 (fun o H4 => o = some (-1) ∧ H4 = H3) I3 ⟨1, rfl, -1, rfl, rfl, rfl⟩) fun vs s4 ⟨o, H4, I4, ps, eo, e4⟩ => ?_
  subst eo e4
  cases pl
  cases pu
  have I5 : Inv X pins σ H4 { s4 with heap := s4.heap.push { cls := .type "slice", data := .fields #[.none, .none, vs] } } := I4.kept (t' := s4.toks) fun b ob q => Heap.get?_push_of_some _ q
  obtain ⟨its, r, ht, hz⟩ := I5.tuple hx
  have hlen := r.length
  show wpAny (model X.prog X.w) X.A (subscriptTail e (.Slice none none (some (.UnaryOp .USub (.Constant (.int 1) k p1) p2)) p3) (.ref a) (.ref s4.heap.objs.size)) (EP X pins σ Q) X.xe { s4 with heap := s4.heap.push { cls := .type "slice", data := .fields #[.none, .none, vs] } }
  refine tail_any (ops := [.ref a, .ref s4.heap.objs.size]) ht.typeIs PyProof.Rows.slot_tuple_getitem.lookup ?_ (by with_unfolding_all rfl)
  refine item_back ht (Heap.IsSliceOf.new _ .none .none vs) ps ?_ (by rw [List.size_toArray]; omega)
  refine ⟨.ref _, _, I5.laid (t' := s4.toks) (o := .tup xs.reverse) (fun b ob q => Heap.get?_push_of_some _ q) (Nat.le_refl _) ?_, rfl, q _ (I5.hok.fresh (Nat.le_refl _))⟩
  exact ⟨by rw [List.length_reverse]; exact hz, _, r.reverse, IsTup.new _ _⟩
end
end TrV
namespace Y
open PySem L2
theorem ev_revT {X : Cx} {H0 : Hp} {Oc : List Addr} {Γ : List Sl} {a : Expr} {pos p1 p3 p4 : Pos} {k : Nat} {ds : List D} (ha : Ev X H0 Oc Γ a (.va (.tup ds))) : Ev X H0 Oc Γ (.Subscript a (.Slice none none (some (.UnaryOp .USub (.Constant (.int 1) k p1) p3)) p4) pos) (.va (.tup ds.reverse)) := fun Δ τ σ H Q hl W q =>
  wpE.of (TrV.pe_back pe_wp) (ha Δ τ σ H _ hl W fun v H' ⟨O, W'⟩ => by
    obtain ⟨u, g1, p, vs, e1, g3, r⟩ := W'.head
    cases g1
    exact ⟨p, vs, e1, .of (cut_ex _ _ g3), fun x hx => q _ _ ⟨_, W'.pop.newTup hx r.rev⟩⟩)
end Y

namespace Y
open PySem L2
/-! ## a display of int literals -/
def intsOf : List Expr → Option (List Int)
  | [] => some []
  | .Constant (.int i) _ _ :: es => (intsOf es).map (i :: ·)
  | _ => none
section
variable {X : Cx} {W : WX} {H0 : Hp} {Oc : List Addr} {Γ Γ' : List Sl} {es : List Expr} {ns : List Int} {pos : Pos} {b : List Stmt} {o : Out}
theorem ea_ints : ∀ {es : List Expr} {ns : List Int}, intsOf es = some ns → Ea X H0 Oc Γ es (ns.map fun i => .va (.int i))
  | [], ns, h => by
    cases h
    exact ea_nil
  | e :: es, ns, h => by
    unfold intsOf at h
    split at h
    · rename_i heq
      cases heq
    · rename_i heq
      cases heq
      cases q : intsOf es with
      | none => rw [q] at h; cases h
      | some ms =>
        rw [q] at h
        cases h
        exact ea_cons ev_int (ea_ints q)
    · cases h
theorem dats_ints : ∀ (ns : List Int), dats (ns.map fun i => .va (.int i)) = some (ns.map .int)
  | [] => rfl
  | i :: ns => by
    show (dats (ns.map fun i => .va (.int i))).map _ = _
    rw [dats_ints ns]
    rfl
theorem ev_ints (h : intsOf es = some ns) (hn : ns.length ≤ 1000000) : Ev X H0 Oc Γ (.List es pos) (.ow (.lst (ns.map .int))) := ev_lst (ea_ints h) (dats_ints ns) (by rw [List.length_map]; exact hn)
/-- slots that are not needed behind -/
theorem sds_in (hs : Sub Γ Γ') (h : Sds X W H0 Oc Γ' b o) : Sds X W H0 Oc Γ b o := fun Δ τ σ H D hl st w k => h Δ τ σ H D hl st (w.sub hs.app) k
end
end Y

namespace K91
open PySem PySem.Spec PyProof.Rows L2 Y
def top (i : Nat) : Stmt := PySem.Challenge.pw_everystepstands_k91_orders_by_neighbours.main.body.getD i (.Pass ⟨0, 0, 0, 0⟩)
abbrev sUnlike : Stmt := top 1
abbrev sSpotsOf : Stmt := top 12
abbrev sExchanged : Stmt := top 13
abbrev sUnlikePairs : Stmt := top 14
abbrev sCell : Stmt := top 16
abbrev sDraw : Stmt := top 17
abbrev sInt : Stmt := top 18
abbrev sTruth : Stmt := top 19
abbrev sEqual : Stmt := top 20
abbrev sOrder : Stmt := top 21
abbrev sSpots : Stmt := top 22
abbrev sFacts : Stmt := top 23
abbrev sIsOrder : Stmt := top 24
abbrev sSwapped : Stmt := top 25
abbrev sIsChange : Stmt := top 26
abbrev sNext : Stmt := top 27
abbrev sUnlikeL : Stmt := top 28
abbrev sSettings : Stmt := top 29
abbrev sDoors : Stmt := top 30
abbrev sRefused : Stmt := top 31
abbrev sWrong : Stmt := top 32
abbrev sLaw : Stmt := top 33
section
variable {Pr : Program} {w : World} {K : PySem.W.Frag} {mg : Str → Option Value} {base : Heap}
/-! ### _law_cell -/
def cellV (ns : List Int) (k : Nat) : Int := ns.getD k 0
def pCell : Pm := fun Γ o => ∃ (ns : List Int) (k : Nat), ns.length ≤ 63 ∧ Γ = [.va (.fz (ns.map .int)), .va (.int k)] ∧ o = .ret (.va (.int (cellV ns k)))
theorem scCell : FnScope ["script", "k"] ["script", "k"] (defScope sCell) := ⟨rfl, rfl, rfl, by decide +kernel, rfl, by decide +kernel, by decide +kernel⟩
theorem ok_cell {f : Addr} {fd : FuncData} (F : Fun K "_law_cell" "_law_cell" sCell f fd) (T : Bi mg) : FnOk Pr w K mg base (L2N.CX Pr w) 1 f fd ["script", "k"] (mkSp K pCell) := by
  refine fn_sds F scCell (fun Γ o ⟨ns, k, h1, h2, h3⟩ => by rw [h2]; rfl) fun cdv A outer s H E hr H0 Oc Γ o ⟨ns, k, h1, h2, h3⟩ => ?_
  subst h2 h3
  refine ⟨.ret (.va (.int (cellV ns k))), ?_, rfl⟩
  refine d_ifx (et_c cm_lt (vv 1) (e_len T.len (vb 0))) rfl (fun c => d_ret (e_int T.int (ev_ixF (d := .int (cellV ns k)) (vb 0) (vv 1) ?_)) rfl) (fun c => d_ret ev_int ?_)
  · have c := of_decide_eq_true c
    rw [List.length_map] at c
    have hk : k < ns.length := by omega
    have e : ns[k]? = some (cellV ns k) := by unfold cellV; rw [List.getD_eq_getElem?_getD, List.getElem?_eq_getElem hk]; rfl
    exact atI_map e
  · have c := of_decide_eq_false c
    rw [List.length_map] at c
    have hk : ns.length ≤ k := by omega
    unfold cellV
    rw [List.getD_eq_getElem?_getD, List.getElem?_eq_none hk]
    rfl
/-! ### _law_draw -/
def stepA (p : List Int × Int) (b : Int) : List Int × Int := (p.1 ++ [p.2 % b], p.2 / b)
def stepB (p : List Int × Int) (b : Int) : List Int × Int := (p.1 ++ [(p.2 * 48271 + 12345) % 2147483647 / 64 % b], (p.2 * 48271 + 12345) % 2147483647)
def drawV (c : Int) (bs : List Int) : List Int := if 1000000000000000000 ≤ c then (bs.foldl stepA ([], c - 1000000000000000000)).1 else (bs.foldl stepB ([], c % 2147483647)).1
def pDraw : Pm := fun Γ o => ∃ (c : Int) (bs : List Int), bs.length ≤ 1000000 ∧ (∀ b ∈ bs, 0 < b ∧ b < 1073741824) ∧ Γ = [.va (.int c), .br (.lst (bs.map .int))] ∧ o = .ret (.ow (.lst ((drawV c bs).map .int)))
theorem scDraw : FnScope ["cell", "bases", "drawn", "rest", "base", "state"] ["cell", "bases"] (defScope sDraw) := ⟨rfl, rfl, rfl, by decide +kernel, rfl, by decide +kernel, by decide +kernel⟩
theorem lenA : ∀ (bs : List Int) (p : List Int × Int), (bs.foldl stepA p).1.length = p.1.length + bs.length
  | [], _ => rfl
  | b :: bs, p => by
    show (bs.foldl stepA (stepA p b)).1.length = _
    rw [lenA bs]
    simp [stepA]
    omega
theorem lenB : ∀ (bs : List Int) (p : List Int × Int), (bs.foldl stepB p).1.length = p.1.length + bs.length
  | [], _ => rfl
  | b :: bs, p => by
    show (bs.foldl stepB (stepB p b)).1.length = _
    rw [lenB bs]
    simp [stepB]
    omega
theorem drawV_len (c : Int) (bs : List Int) : (drawV c bs).length = bs.length := by
  unfold drawV
  split
  · rw [lenA]; exact Nat.zero_add _
  · rw [lenB]; exact Nat.zero_add _
theorem stB {p : List Int × Int} (h : 0 ≤ p.2 ∧ p.2 < 2147483647) : ∀ (bs : List Int), 0 ≤ (bs.foldl stepB p).2 ∧ (bs.foldl stepB p).2 < 2147483647
  | [] => h
  | b :: bs => stB (p := stepB p b) ⟨Int.emod_nonneg _ (by decide), Int.emod_lt_of_pos _ (by decide)⟩ bs
theorem ok_draw {f : Addr} {fd : FuncData} (F : Fun K "_law_draw" "_law_draw" sDraw f fd) (T : Bi mg) : FnOk Pr w K mg base (L2N.CX Pr w) 1 f fd ["cell", "bases"] (mkSp K pDraw) := by
  refine fn_sds F scDraw (fun Γ o ⟨ns, k, _, _, h2, h3⟩ => by rw [h2]; rfl) fun cdv A outer s H E hr H0 Oc Γ o ⟨ci, bs, hl, hb, h2, h3⟩ => ?_
  subst h2 h3
  refine ⟨.ret (.ow (.lst ((drawV ci bs).map .int))), ?_, rfl⟩
  refine d_set 2 scDraw.nd (ev_lst ea_nil rfl (by decide)) ?_
  refine d_set 3 scDraw.nd (e_int T.int (vv 0)) ?_
  refine d_ifx (et_c cm_ge (vv 3) e_1018) rfl (fun c => ?_) (fun c => ?_)
  · refine d_set 3 scDraw.nd (ev_sub (vv 3) e_1018) ?_
    refine d_forP bs .int stepA ([], ci - 1000000000000000000) (fun p => [.va (.int ci), .br (.lst (bs.map .int)), .ow (.lst (p.1.map .int)), .va (.int p.2), .no, .no]) (passes_of rfl) rfl (ei_lst (vr 1) rfl) ?_ ?_ ?_
    · exact .eq (.eq (.eq (.eq (.eq (.eq .nil)))))
    · intro p b pre post hx hp
      have hbb := hb b (by rw [hx]; simp)
      refine ⟨_, _, t_name 4 scDraw.nd, d_app 2 (ev_mod (vv 3) (vv 4) hbb.1) ?_ (d_set 3 scDraw.nd (ev_fdiv (vv 3) (vv 4) hbb) sds_nil), ?_⟩
      · have z := congrArg List.length hx
        rw [List.length_append, List.length_cons] at z
        rw [List.length_map, hp, lenA]
        show 0 + _ ≤ _
        omega
      · exact .eq (.eq (.eqc (lst1 _ _ _) (.eq (.no (.eq .nil)))))
    · exact d_retV 2 (by unfold drawV; rw [if_pos (of_decide_eq_true c)])
  · refine d_set 5 scDraw.nd (ev_mod (vv 3) ev_int (by decide)) ?_
    refine d_forP bs .int stepB ([], ci % 2147483647) (fun p => [.va (.int ci), .br (.lst (bs.map .int)), .ow (.lst (p.1.map .int)), .va (.int ci), .no, .va (.int p.2)]) (passes_of rfl) rfl (ei_lst (vr 1) rfl) ?_ ?_ ?_
    · exact .eq (.eq (.eq (.eq (.eq (.eq .nil)))))
    · intro p b pre post hx hp
      have hbb := hb b (by rw [hx]; simp)
      have hs : 0 ≤ p.2 ∧ p.2 < 2147483647 := by
        rw [hp]
        exact stB ⟨Int.emod_nonneg _ (by decide), Int.emod_lt_of_pos _ (by decide)⟩ pre
      refine ⟨_, _, t_name 4 scDraw.nd, d_set 5 scDraw.nd (ev_mod (ev_add (ev_mul (vv 5) ev_int (.inl ⟨by omega, by omega⟩)) ev_int) ev_int (by decide)) (d_app 2 (ev_mod (ev_fdiv (vv 5) ev_int ⟨by decide, by decide⟩) (vv 4) hbb.1) ?_ sds_nil), ?_⟩
      · have z := congrArg List.length hx
        rw [List.length_append, List.length_cons] at z
        rw [List.length_map, hp, lenB]
        show 0 + _ ≤ _
        omega
      · exact .eq (.eq (.eqc (lst1 _ _ _) (.eq (.no (.eq .nil)))))
    · exact d_retV 2 (by unfold drawV; rw [if_neg (of_decide_eq_false c)])
theorem foldA_get : ∀ (bs : List Int) (p : List Int × Int), ∃ L : List Int, (bs.foldl stepA p).1 = p.1 ++ L ∧ L.length = bs.length ∧ ∀ (i : Nat) (b : Int), bs[i]? = some b → 0 < b → ∃ v, L[i]? = some v ∧ 0 ≤ v ∧ v < b
  | [], p => ⟨[], by simp, rfl, fun i b h => by simp at h⟩
  | b :: bs, p => by
    obtain ⟨L, h1, h2, h3⟩ := foldA_get bs (stepA p b)
    refine ⟨p.2 % b :: L, ?_, by simp [h2], fun i b' h hb => ?_⟩
    · show (bs.foldl stepA (stepA p b)).1 = _
      rw [h1]
      simp [stepA]
    · cases i with
      | zero =>
        cases h
        exact ⟨_, rfl, Int.emod_nonneg _ (by omega), Int.emod_lt_of_pos _ hb⟩
      | succ i => exact h3 i b' h hb
theorem foldB_get : ∀ (bs : List Int) (p : List Int × Int), ∃ L : List Int, (bs.foldl stepB p).1 = p.1 ++ L ∧ L.length = bs.length ∧ ∀ (i : Nat) (b : Int), bs[i]? = some b → 0 < b → ∃ v, L[i]? = some v ∧ 0 ≤ v ∧ v < b
  | [], p => ⟨[], by simp, rfl, fun i b h => by simp at h⟩
  | b :: bs, p => by
    obtain ⟨L, h1, h2, h3⟩ := foldB_get bs (stepB p b)
    refine ⟨(p.2 * 48271 + 12345) % 2147483647 / 64 % b :: L, ?_, by simp [h2], fun i b' h hb => ?_⟩
    · show (bs.foldl stepB (stepB p b)).1 = _
      rw [h1]
      simp [stepB]
    · cases i with
      | zero =>
        cases h
        exact ⟨_, rfl, Int.emod_nonneg _ (by omega), Int.emod_lt_of_pos _ hb⟩
      | succ i => exact h3 i b' h hb
theorem drawV_get (c : Int) (bs : List Int) (i : Nat) (b : Int) (h : bs[i]? = some b) (hb : 0 < b) : ∃ v, (drawV c bs)[i]? = some v ∧ 0 ≤ v ∧ v < b := by
  unfold drawV
  split
  · obtain ⟨L, h1, _, h3⟩ := foldA_get bs ([], c - 1000000000000000000)
    rw [h1]
    exact h3 i b h hb
  · obtain ⟨L, h1, _, h3⟩ := foldB_get bs ([], c % 2147483647)
    rw [h1]
    exact h3 i b h hb
/-! ### _law_int, _law_truth -/
def pInt : Pm := fun Γ o => ∃ i j : Int, Γ = [.va (.int i), .va (.int j)] ∧ o = .ret (.va (.bl (decide (i = j))))
theorem scInt : FnScope ["actual", "expected"] ["actual", "expected"] (defScope sInt) := ⟨rfl, rfl, rfl, by decide +kernel, rfl, by decide +kernel, by decide +kernel⟩
theorem ok_int {f : Addr} {fd : FuncData} (F : Fun K "_law_int" "_law_int" sInt f fd) (T : Bi mg) : FnOk Pr w K mg base (L2N.CX Pr w) 1 f fd ["actual", "expected"] (mkSp K pInt) := by
  refine fn_sds F scInt (fun Γ o ⟨_, _, h2, _⟩ => by rw [h2]; rfl) fun cdv A outer s H E hr H0 Oc Γ o ⟨i, j, h3, h4⟩ => ?_
  subst h3 h4
  exact ⟨_, d_ret (d1 := .bl (decide (i = j))) (ev_and (e_isT T.isi T.int (vb 0) bt_int rfl ki_ii) fun _ => ev_and (ev_not (e_isT T.isi T.bool (vb 0) bt_bool rfl ki_ib)) fun _ => ev_one (ev_c cm_eqI (vv 0) (vv 1))) (by simp), rfl⟩
theorem ok_intH {f : Addr} {fd : FuncData} (F : Fun K "_law_int" "_law_int" sInt f fd) (T : Bi mg) : L2H.FnH Pr w K mg base (L2N.CX Pr w) 1 f fd ["actual", "expected"] (mkSp K pInt) := by
  refine fn_sdsH F scInt (fun Γ o ⟨_, _, h2, _⟩ => by rw [h2]; rfl) fun cdv A outer s H E p hot hr H0 Oc Γ o ⟨i, j, h3, h4⟩ => ?_
  subst h3 h4
  exact ⟨_, d_ret (d1 := .bl (decide (i = j))) (ev_and (e_isT T.isi T.int (vb 0) bt_int rfl ki_ii) fun _ => ev_and (ev_not (e_isT T.isi T.bool (vb 0) bt_bool rfl ki_ib)) fun _ => ev_one (ev_c cm_eqI (vv 0) (vv 1))) (by simp), rfl⟩
def pTruth : Pm := fun Γ o => ∃ i j : Bool, Γ = [.va (.bl i), .va (.bl j)] ∧ o = .ret (.va (.bl (decide (i = j))))
theorem scTruth : FnScope ["actual", "expected"] ["actual", "expected"] (defScope sTruth) := ⟨rfl, rfl, rfl, by decide +kernel, rfl, by decide +kernel, by decide +kernel⟩
theorem ok_truth {f : Addr} {fd : FuncData} (F : Fun K "_law_truth" "_law_truth" sTruth f fd) (T : Bi mg) : FnOk Pr w K mg base (L2N.CX Pr w) 1 f fd ["actual", "expected"] (mkSp K pTruth) := by
  refine fn_sds F scTruth (fun Γ o ⟨_, _, h2, _⟩ => by rw [h2]; rfl) fun cdv A outer s H E hr H0 Oc Γ o ⟨i, j, h3, h4⟩ => ?_
  subst h3 h4
  exact ⟨_, d_ret (d1 := .bl (decide (i = j))) (ev_and (e_isT T.isi T.bool (vb 0) bt_bool rfl ki_bb) fun _ => ev_one (ev_c cm_eqB (vv 0) (vv 1))) (by simp), rfl⟩
/-! ### _law_equal of lists of tuples, by _law_int: equal ones only -/
def pEqual : Pm := fun Γ o => ∃ (s0 s1 : Sl) (a : List (List Int)), Γ = [s0, s1] ∧ One s0 (.lst (a.map encT)) ∧ One s1 (.lst (a.map encT)) ∧ a.length ≤ 1000000 ∧ (∀ r ∈ a, r.length ≤ 1000000) ∧ stab [s0, s1] = true ∧ o = .ret (.va (.bl true))
theorem scEqual : FnScope ["actual", "expected", "k", "j"] ["actual", "expected"] (defScope sEqual) := ⟨rfl, rfl, rfl, by decide +kernel, rfl, by decide +kernel, by decide +kernel⟩
theorem ok_equal {f : Addr} {fd : FuncData} (F : Fun K "_law_equal" "_law_equal" sEqual f fd) (T : Bi mg) (G : FnG Pr w K mg base "_law_int" 1 ["actual", "expected"] pInt) : FnOk Pr w K mg base (L2N.CX Pr w) 2 f fd ["actual", "expected"] (mkSp K pEqual) := by
  refine fn_sds F scEqual (fun Γ o ⟨_, _, _, h2, _⟩ => by rw [h2]; rfl) fun cdv A outer s H E hr H0 Oc Γ o ⟨s0, s1, a, h3, h1, h2, hl, hr2, hst, h4⟩ => ?_
  subst h3 h4
  refine ⟨.ret (.va (.bl true)), ?_, rfl⟩
  refine d_ifx (et_w (ew_or (et_not (et_val (e_isT T.isi T.list (vb 0 rfl h1) bt_list rfl ki_ll))) fun _ => ew_or1 (et_c cm_neI (e_len T.len (vb 0 rfl h1)) (e_len T.len (vb 1 rfl h2))))) rfl (by intro c; simp at c) fun _ => ?_
  refine d_forP (List.range (a.map encT).length) (fun k : Nat => .int k) (fun (_ : Unit) _ => ()) () (fun _ => [s0, s1, .no, .no]) (passes_of rfl) rfl (i_rng T.range (e_len T.len (vb 1 rfl h2)) (by rw [List.length_map]; omega)) (.eq (.eq (.eq (.eq .nil)))) ?_ ?_
  · intro st k pre post hx _
    have hk := rng_lt hx
    rw [List.length_map] at hk
    have e1 : a[k]? = some a[k] := List.getElem?_eq_getElem hk
    have hrow := hr2 a[k] (List.getElem_mem hk)
    generalize a[k] = r at e1 hrow
    refine ⟨_, [s0, s1, .va (.int k), .no], t_name 2 scEqual.nd, sds_ifx (et_w (ew_or (et_not (et_val (e_isT T.isi T.tuple (ev_ixL (d := encT r) (vb 0 rfl h1) (vv 2) (atI_map e1)).r bt_tuple rfl ki_tt))) fun _ => ew_or1 (et_c cm_neI (e_len T.len (ev_ixL (d := encT r) (vb 0 rfl h1) (vv 2) (atI_map e1)).r) (e_len T.len (ev_ixL (d := encT r) (vb 1 rfl h2) (vv 2) (atI_map e1)).r)))) (by intro c; simp at c) fun _ => ?_, .eq (.eq (.no (.no .nil)))⟩
    refine sds_ifx (et_not (et_val (e_allL (fun _ => true) T.all rfl (e_lc (own := [("j", 3)]) (List.range (r.map D.int).length) (fun k : Nat => .int k) (fun _ => .bl true) (fun j => [s0.arg, s1.arg, .va (.int k), .va (.int j)]) rfl scEqual.nd (blkOk_by (by rfl)) (i_rng T.range (e_len T.len (ev_ixL (d := encT r) (vb 1 rfl h2) (vv 2) (atI_map e1)).r) (by rw [List.length_map]; omega)) (by rw [List.length_range, List.length_map]; exact hrow)
      (fun x hx _ _ _ _ _ _ _ => tw_name 3 scEqual.nd) (fun j _ => ⟨stab_arg (G := [s0, s1, .va (.int k), .va (.int j)]), .eq (.eq (.eq (.no .nil)))⟩) ?_)))) (by intro c; simp at c) fun _ => sds_nil
    intro j hj _ _ _ _ _ _ _
    have hj := List.mem_range.mp hj
    rw [List.length_map] at hj
    have e2 : r[j]? = some r[j] := List.getElem?_eq_getElem hj
    generalize r[j] = v at e2
    have q1 : s0.arg.dat = some (.lst (a.map encT)) := by rw [← h1]; cases s0 <;> rfl
    have q2 : s1.arg.dat = some (.lst (a.map encT)) := by rw [← h2]; cases s1 <;> rfl
    exact Ev.bb (ev_call G hr (ea_cons (ev_ixT (d := .int v) (ev_ixL (d := encT r) (vb 0 rfl q1) (vv 2) (atI_map e1)).r (vv 3) (atI_map e2)) (ea_cons (ev_ixT (d := .int v) (ev_ixL (d := encT r) (vb 1 rfl q2) (vv 2) (atI_map e1)).r (vv 3) (atI_map e2)) ea_nil)) ⟨v, v, rfl, rfl⟩) (by simp)
  · exact d_ret ev_bl rfl
end
end K91

namespace K91
open PySem PySem.Spec PyProof.Rows L2 Y
/-! ### plain: enumF -/
theorem mem_enumF {α : Type} {xs : List α} {k : Nat} {p : Nat × α} (h : p ∈ enumF k xs) : ∃ i, p.1 = k + i ∧ xs[i]? = some p.2 := by
  obtain ⟨i, hi⟩ := List.mem_iff_getElem?.mp h
  rw [enumF_get] at hi
  cases e : xs[i]? with
  | none => rw [e] at hi; cases hi
  | some x =>
    rw [e] at hi
    cases hi
    exact ⟨i, rfl, e⟩
theorem enumF_fst {α : Type} : ∀ (k : Nat) (xs : List α), (enumF k xs).map (fun p => D.int (p.1 : Int)) = (List.range xs.length).map fun i : Nat => D.int ((k + i : Nat) : Int) := by
  intro k xs
  apply List.ext_getElem?
  intro i
  rw [List.getElem?_map, List.getElem?_map, enumF_get]
  by_cases h : i < xs.length
  · rw [List.getElem?_eq_getElem h, List.getElem?_range h]
    rfl
  · rw [List.getElem?_eq_none (by omega), List.getElem?_eq_none (by rw [List.length_range]; omega)]
    rfl
/-! ### spots -/
/-- the items are places of the list -/
def Pl (o : List Int) : Prop := ∀ x ∈ o, 0 ≤ x ∧ x < (o.length : Int)
def stepS (s : List Int) (p : Nat × Int) : List Int := s.set p.2.toNat (p.1 : Int)
def spotsV (o : List Int) : List Int := (enumF 0 o).foldl stepS (List.replicate o.length 0)
theorem stepS_len : ∀ (ps : List (Nat × Int)) (s : List Int), (ps.foldl stepS s).length = s.length
  | [], _ => rfl
  | p :: ps, s => by
    show (ps.foldl stepS (stepS s p)).length = _
    rw [stepS_len ps]
    unfold stepS
    rw [List.length_set]
theorem spotsV_len (o : List Int) : (spotsV o).length = o.length := by
  unfold spotsV
  rw [stepS_len, List.length_replicate]
theorem rep0 (n : Nat) : (List.replicate n [D.int 0]).flatten = (List.replicate n (0 : Int)).map .int := rep_ints n 0
section
variable {Pr : Program} {w : World} {K : PySem.W.Frag} {mg : Str → Option Value} {base : Heap}
def pSpots : Pm := fun Γ o => ∃ (s0 : Sl) (a : List Int), Γ = [s0] ∧ s0 = .va (encT a) ∧ Pl a ∧ a.length ≤ 1000 ∧ o = .ret (.ow (.lst ((spotsV a).map .int)))
theorem scSpotsOf : FnScope ["setting", "spots", "spot", "thing"] ["setting"] (defScope sSpotsOf) := ⟨rfl, rfl, rfl, by decide +kernel, rfl, by decide +kernel, by decide +kernel⟩
theorem scSpots : FnScope ["order", "spots", "k"] ["order"] (defScope sSpots) := ⟨rfl, rfl, rfl, by decide +kernel, rfl, by decide +kernel, by decide +kernel⟩
theorem ok_spotsOf {f : Addr} {fd : FuncData} (F : Fun K "spots_of" "spots_of" sSpotsOf f fd) (T : Bi mg) : FnOk Pr w K mg base (L2N.CX Pr w) 1 f fd ["setting"] (mkSp K pSpots) := by
  refine fn_sds F scSpotsOf (fun Γ o ⟨_, _, h2, _⟩ => by rw [h2]; rfl) fun cdv A outer s H E hr H0 Oc Γ o ⟨s0, a, h3, h1, hp, hl, h4⟩ => ?_
  subst h3 h4 h1
  refine ⟨.ret (.ow (.lst ((spotsV a).map .int))), ?_, rfl⟩
  refine d_set 1 scSpotsOf.nd (s := .ow (.lst ((List.replicate a.length (0 : Int)).map .int))) (Ev.aso (ev_repL (ev_lst (ea_cons ev_int ea_nil) rfl (by decide)).r (e_len T.len (vb 0)) ?_ ?_ ?_) ?_) ?_
  · rw [List.length_map]; omega
  · omega
  · rw [List.length_map, Int.toNat_natCast]
    show 1 * _ ≤ _
    omega
  · rw [List.length_map, Int.toNat_natCast, rep0]
  refine d_forP (enumF 0 a) (fun p => .tup [.int (p.1 : Int), .int p.2]) stepS (List.replicate a.length 0) (fun s => [.va (encT a), .ow (.lst (s.map .int)), .no, .no]) (passes_of rfl) rfl (i_enT .int a T.enum (vv 0)) (.eq (.eq (.eq (.eq .nil)))) ?_ ?_
  · intro s p pre post hx hs
    obtain ⟨i, e1, e2⟩ := mem_enumF (p := p) (k := 0) (xs := a) (by rw [hx]; simp)
    have b := hp p.2 (List.mem_of_getElem? e2)
    have ls : s.length = a.length := by rw [hs, stepS_len, List.length_replicate]
    refine ⟨_, [.va (encT a), .ow (.lst ((stepS s p).map .int)), .va (.int (p.1 : Int)), .va (.int p.2)], t_two 2 3 rfl scSpotsOf.nd, sds_ix (d := .int (p.1 : Int)) (jj := p.2.toNat) 1 rfl rfl (vv 2) (vv 3) ?_ (sds_nilq ?_) rfl (by first | exact .inl rfl | exact .inr (.inl rfl)) rfl rfl, .eq (.eq (.no (.no .nil)))⟩
    · rw [List.length_map, ls]
      have : p.2 = (p.2.toNat : Int) := by omega
      rw [this, Int.toNat_natCast]
      exact ixN_nat (by omega)
    · unfold stepS
      rw [List.map_set]
      rfl
  · exact d_retV 1 rfl
theorem ok_spots {f : Addr} {fd : FuncData} (F : Fun K "_law_spots" "_law_spots" sSpots f fd) (T : Bi mg) : FnOk Pr w K mg base (L2N.CX Pr w) 1 f fd ["order"] (mkSp K pSpots) := by
  refine fn_sds F scSpots (fun Γ o ⟨_, _, h2, _⟩ => by rw [h2]; rfl) fun cdv A outer s H E hr H0 Oc Γ o ⟨s0, a, h3, h1, hp, hl, h4⟩ => ?_
  subst h3 h4 h1
  refine ⟨.ret (.ow (.lst ((spotsV a).map .int))), ?_, rfl⟩
  refine d_set 1 scSpots.nd (s := .ow (.lst ((List.replicate a.length (0 : Int)).map .int))) (Ev.aso (ev_repL (ev_lst (ea_cons ev_int ea_nil) rfl (by decide)).r (e_len T.len (vb 0)) ?_ ?_ ?_) ?_) ?_
  · rw [List.length_map]; omega
  · omega
  · rw [List.length_map, Int.toNat_natCast]
    show 1 * _ ≤ _
    omega
  · rw [List.length_map, Int.toNat_natCast, rep0]
  refine d_forP (enumF 0 a) (fun p => .int (p.1 : Int)) stepS (List.replicate a.length 0) (fun s => [.va (encT a), .ow (.lst (s.map .int)), .no]) (passes_of rfl) rfl (Ei.as (i_rng T.range (e_len T.len (vb 0)) (by rw [List.length_map]; omega)) ?_) (.eq (.eq (.eq .nil))) ?_ ?_
  · rw [enumF_fst, List.length_map]
    exact List.map_congr_left fun k _ => by rw [Nat.zero_add]
  · intro s p pre post hx hs
    obtain ⟨i, e1, e2⟩ := mem_enumF (p := p) (k := 0) (xs := a) (by rw [hx]; simp)
    have b := hp p.2 (List.mem_of_getElem? e2)
    have ls : s.length = a.length := by rw [hs, stepS_len, List.length_replicate]
    have e3 : a[p.1]? = some p.2 := by rw [e1, Nat.zero_add]; exact e2
    refine ⟨_, [.va (encT a), .ow (.lst ((stepS s p).map .int)), .va (.int (p.1 : Int))], t_name 2 scSpots.nd, sds_ix (d := .int (p.1 : Int)) (ii := p.2) (jj := p.2.toNat) 1 rfl rfl (vv 2) (ev_ixT (d := .int p.2) (vb 0) (vv 2) (atI_map e3)) ?_ (sds_nilq ?_) rfl (by first | exact .inl rfl | exact .inr (.inl rfl)) rfl rfl, .eq (.eq (.no .nil))⟩
    · rw [List.length_map, ls]
      have : p.2 = (p.2.toNat : Int) := by omega
      rw [this, Int.toNat_natCast]
      exact ixN_nat (by omega)
    · unfold stepS
      rw [List.map_set]
      rfl
  · exact d_retV 1 rfl
/-! ### exchanged, _law_swapped: two places change their items -/
def swapV (o : List Int) (k j : Nat) : List Int := (o.set k (o.getD j 0)).set j (o.getD k 0)
theorem swap_len (o : List Int) (k j : Nat) : (swapV o k j).length = o.length := by unfold swapV; rw [List.length_set, List.length_set]
theorem swap_cut {o : List Int} {k : Nat} (h : k + 1 < o.length) : o.take k ++ ([o.getD (k + 1) 0, o.getD k 0] ++ o.drop (k + 2)) = swapV o k (k + 1) := by
  apply List.ext_getElem?
  intro i
  unfold swapV
  rw [List.getElem?_set, List.getElem?_set, List.length_set]
  by_cases h1 : i < k
  · rw [List.getElem?_append_left (by rw [List.length_take]; omega), List.getElem?_take, if_pos h1, if_neg (by omega), if_neg (by omega)]
  · rw [List.getElem?_append_right (by rw [List.length_take]; omega), List.length_take, Nat.min_eq_left (by omega)]
    by_cases h2 : i = k
    · subst h2
      rw [Nat.sub_self, if_neg (by omega), if_pos rfl, if_pos (by omega)]
      rfl
    · by_cases h3 : i = k + 1
      · subst h3
        rw [Nat.add_sub_cancel_left, if_pos rfl, if_pos h]
        rfl
      · rw [List.getElem?_append_right (by show 2 ≤ _; omega), List.getElem?_drop, if_neg (by omega), if_neg (by omega)]
        congr 1
        show k + 2 + (i - k - 2) = i
        omega
def pSwap : Pm := fun Γ o => ∃ (a : List Int) (k j : Nat), Γ = [.va (encT a), .va (.int k), .va (.int j)] ∧ k < a.length ∧ j < a.length ∧ o = .ret (.va (encT (swapV a k j)))
def pExch : Pm := fun Γ o => ∃ (a : List Int) (k : Nat), Γ = [.va (encT a), .va (.int k)] ∧ k + 1 < a.length ∧ a.length ≤ 1000 ∧ o = .ret (.va (encT (swapV a k (k + 1))))
theorem scSwapped : FnScope ["order", "k", "j", "values"] ["order", "k", "j"] (defScope sSwapped) := ⟨rfl, rfl, rfl, by decide +kernel, rfl, by decide +kernel, by decide +kernel⟩
theorem scExchanged : FnScope ["setting", "spot"] ["setting", "spot"] (defScope sExchanged) := ⟨rfl, rfl, rfl, by decide +kernel, rfl, by decide +kernel, by decide +kernel⟩
theorem getD_at {o : List Int} {k : Nat} (h : k < o.length) : o[k]? = some (o.getD k 0) := by
  rw [List.getD_eq_getElem?_getD, List.getElem?_eq_getElem h]
  rfl
theorem ok_swapped {f : Addr} {fd : FuncData} (F : Fun K "_law_swapped" "_law_swapped" sSwapped f fd) (T : Bi mg) : FnOk Pr w K mg base (L2N.CX Pr w) 1 f fd ["order", "k", "j"] (mkSp K pSwap) := by
  refine fn_sds F scSwapped (fun Γ o ⟨_, _, _, h2, _⟩ => by rw [h2]; rfl) fun cdv A outer s H E hr H0 Oc Γ o ⟨a, k, j, h3, hk, hj, h4⟩ => ?_
  subst h3 h4
  refine ⟨.ret (.va (encT (swapV a k j))), ?_, rfl⟩
  refine d_set 3 scSwapped.nd (e_list T.list (vb 0)) ?_
  refine sds_ix (d := .int (a.getD j 0)) (jj := k) 3 rfl rfl (ev_ixT (vb 0) (vv 2) (atI_map (getD_at hj))) (vv 1) (by rw [List.length_map]; exact ixN_nat hk) ?_ rfl (by first | exact .inl rfl | exact .inr (.inl rfl)) rfl rfl
  refine sds_ix (d := .int (a.getD k 0)) (jj := j) 3 rfl rfl (ev_ixT (vb 0) (vv 1) (atI_map (getD_at hk))) (vv 2) (by rw [List.length_set, List.length_map]; exact ixN_nat hj) ?_ rfl (by first | exact .inl rfl | exact .inr (.inl rfl)) rfl rfl
  refine d_ret (e_tupL T.tuple (vo 3)) ?_
  show D.tup _ = D.tup _
  unfold swapV
  rw [List.map_set, List.map_set]
theorem ok_exchanged {f : Addr} {fd : FuncData} (F : Fun K "exchanged" "exchanged" sExchanged f fd) : FnOk Pr w K mg base (L2N.CX Pr w) 1 f fd ["setting", "spot"] (mkSp K pExch) := by
  refine fn_sds F scExchanged (fun Γ o ⟨_, _, h2, _⟩ => by rw [h2]; rfl) fun cdv A outer s H E hr H0 Oc Γ o ⟨a, k, h3, hk, hl, h4⟩ => ?_
  subst h3 h4
  refine ⟨.ret (.va (encT (swapV a k (k + 1)))), ?_, rfl⟩
  have e1 : ((k : Int) + 1) = ((k + 1 : Nat) : Int) := rfl
  have e2 : ((k : Int) + 2) = ((k + 2 : Nat) : Int) := rfl
  have c1 : Y.cutD (a.map D.int) none (some (k : Int)) = (a.take k).map .int := by rw [cutD_map, cutD_upto]
  have c2 : Y.cutD (a.map D.int) (some ((k : Int) + 2)) none = (a.drop (k + 2)).map .int := by rw [e2, cutD_map, cutD_from]
  refine d_ret (ev_catT (ev_catT (ev_slT (vv 0) eo_no (eo_at (vv 1))) (ev_tup (ea_cons (ev_ixT (d := .int (a.getD (k + 1) 0)) (vb 0) (ev_add (vv 1) ev_int) (by rw [e1]; exact atI_map (getD_at hk))) (ea_cons (ev_ixT (d := .int (a.getD k 0)) (vb 0) (vv 1) (atI_map (getD_at (by omega)))) ea_nil)) rfl (by show 2 ≤ _; decide)) ?_) (ev_slT (vv 0) (eo_at (ev_add (vv 1) ev_int)) eo_no) ?_) ?_
  · rw [c1, List.length_map, List.length_take]
    show _ + 2 ≤ _
    omega
  · rw [c1, c2, List.length_append, List.length_map, List.length_map, List.length_take, List.length_drop]
    show _ + 2 + _ ≤ _
    omega
  · show D.tup _ = D.tup _
    rw [c1, c2, ← swap_cut hk, List.map_append, List.map_append, List.append_assoc]
    rfl
end
end K91

namespace K91
open PySem PySem.Spec PyProof.Rows L2 Y
abbrev wInit : Stmt := inClass (top 7) 0
abbrev oInit : Stmt := inClass (top 11) 0
abbrev oIsAnswer : Stmt := inClass (top 11) 1
abbrev oIsChange : Stmt := inClass (top 11) 2
abbrev oNext : Stmt := inClass (top 11) 3
abbrev oBlocked : Stmt := inClass (top 11) 4
/-! ### unlike -/
def unlikeV (a b : List Int) : List Nat := (List.range a.length).filter fun i => !decide (a.getD i 0 = b.getD i 0)
section
variable {Pr : Program} {w : World} {K : PySem.W.Frag} {mg : Str → Option Value} {base : Heap}
def pUnlike : Pm := fun Γ o => ∃ a b : List Int, Γ = [.va (encT a), .va (encT b)] ∧ b.length = a.length ∧ a.length ≤ 1000 ∧ o = .ret (.ow (.lst ((unlikeV a b).map fun i : Nat => .int i)))
theorem scUnlike : FnScope ["first", "second", "position"] ["first", "second"] (defScope sUnlike) := ⟨rfl, rfl, rfl, by decide +kernel, rfl, by decide +kernel, by decide +kernel⟩
theorem ok_unlike {f : Addr} {fd : FuncData} (F : Fun K "unlike" "unlike" sUnlike f fd) (T : Bi mg) : FnOk Pr w K mg base (L2N.CX Pr w) 1 f fd ["first", "second"] (mkSp K pUnlike) := by
  refine fn_sds F scUnlike (fun Γ o ⟨_, _, h2, _⟩ => by rw [h2]; rfl) fun cdv A outer s H E hr H0 Oc Γ o ⟨a, b, h3, he, hl, h4⟩ => ?_
  subst h3 h4
  refine ⟨.ret (.ow (.lst ((unlikeV a b).map fun i : Nat => .int i))), ?_, rfl⟩
  refine d_retO (d := .lst (((List.range a.length).filter fun i => !decide (a.getD i 0 = b.getD i 0)).map fun i : Nat => .int i)) ?_ rfl
  refine e_lcf (own := [("position", 2)]) (List.range a.length) (fun i : Nat => .int i) (fun i => !decide (a.getD i 0 = b.getD i 0)) (fun i : Nat => .int i) (fun i => [.va (encT a), .va (encT b), .va (.int i)]) rfl scUnlike.nd (blkOk_by (by rfl)) (Ei.as (i_rng T.range (e_len T.len (vb 0)) (by rw [List.length_map]; omega)) (by rw [List.length_map])) (by rw [List.length_range]; omega)
    (fun x hx _ _ _ _ _ _ _ => tw_name 2 scUnlike.nd) (fun i _ => ⟨rfl, .eq (.eq (.no .nil))⟩) (fun i hi _ _ _ _ _ _ _ => ?_) (fun i _ _ _ _ _ _ _ _ _ => vv 2)
  have hi := List.mem_range.mp hi
  exact et_c cm_neI (ev_ixT (d := .int (a.getD i 0)) (vb 0) (vv 2) (atI_map (getD_at hi))) (ev_ixT (d := .int (b.getD i 0)) (vb 1) (vv 2) (atI_map (getD_at (by omega))))
/-! ### pairs in another order -/
def lessAt (s : List Int) (i j : Nat) : Bool := decide (s.getD i 0 < s.getD j 0)
def stepP (u v : List Int) (i : Nat) (acc : List (List Int)) (k : Nat) : List (List Int) := if lessAt u i (i + 1 + k) = lessAt v i (i + 1 + k) then acc else acc ++ [[(i : Int), ((i + 1 + k : Nat) : Int)]]
def rowP (n : Nat) (u v : List Int) (acc : List (List Int)) (i : Nat) : List (List Int) := (List.range (n - (i + 1))).foldl (stepP u v i) acc
def pairsV (a b : List Int) : List (List Int) := (List.range a.length).foldl (rowP a.length (spotsV a) (spotsV b)) []
theorem stepP_len (u v : List Int) (i : Nat) : ∀ (ks : List Nat) (acc : List (List Int)), (ks.foldl (stepP u v i) acc).length ≤ acc.length + ks.length
  | [], _ => Nat.le_refl _
  | k :: ks, acc => by
    have h1 := stepP_len u v i ks (stepP u v i acc k)
    have h2 : (stepP u v i acc k).length ≤ acc.length + 1 := by
      unfold stepP
      split
      · omega
      · simp
    show ((ks.foldl (stepP u v i) (stepP u v i acc k))).length ≤ _
    simp only [List.length_cons]
    omega
theorem rowP_len (n : Nat) (u v : List Int) : ∀ (is : List Nat) (acc : List (List Int)), (is.foldl (rowP n u v) acc).length ≤ acc.length + is.length * n
  | [], _ => by simp
  | i :: is, acc => by
    have h1 := rowP_len n u v is (rowP n u v acc i)
    have h2 : (rowP n u v acc i).length ≤ acc.length + n := by
      have := stepP_len u v i (List.range (n - (i + 1))) acc
      rw [List.length_range] at this
      show ((List.range (n - (i + 1))).foldl (stepP u v i) acc).length ≤ _
      omega
    show ((is.foldl (rowP n u v) (rowP n u v acc i))).length ≤ _
    rw [List.length_cons, Nat.succ_mul]
    omega
def pPairs : Pm := fun Γ o => ∃ a b : List Int, Γ = [.va (encT a), .va (encT b)] ∧ Pl a ∧ Pl b ∧ b.length = a.length ∧ a.length ≤ 500 ∧ o = .ret (.ow (.lst ((pairsV a b).map encT)))
theorem scPairs : FnScope ["first", "second", "before", "after", "found", "one", "other"] ["first", "second"] (defScope sUnlikePairs) := ⟨rfl, rfl, rfl, by decide +kernel, rfl, by decide +kernel, by decide +kernel⟩
theorem scPairsL : FnScope ["first", "second", "before", "after", "found", "one", "other"] ["first", "second"] (defScope sUnlikeL) := ⟨rfl, rfl, rfl, by decide +kernel, rfl, by decide +kernel, by decide +kernel⟩
theorem ok_pairs {f : Addr} {fd : FuncData} (F : Fun K "unlike_pairs" "unlike_pairs" sUnlikePairs f fd) (T : Bi mg) (G : FnG Pr w K mg base "spots_of" 1 ["setting"] pSpots) : FnOk Pr w K mg base (L2N.CX Pr w) 2 f fd ["first", "second"] (mkSp K pPairs) := by
  refine fn_sds F scPairs (fun Γ o ⟨_, _, h2, _⟩ => by rw [h2]; rfl) fun cdv A outer s H E hr H0 Oc Γ o ⟨a, b, h3, pa, pb, he, hl, h4⟩ => ?_
  subst h3 h4
  refine ⟨.ret (.ow (.lst ((pairsV a b).map encT))), ?_, rfl⟩
  have lu := spotsV_len a
  have lv := spotsV_len b
  refine d_set 2 scPairs.nd (ev_call G hr (ea_cons (vv 0) ea_nil) ⟨_, a, rfl, rfl, pa, by omega, rfl⟩) ?_
  refine d_set 3 scPairs.nd (ev_call G hr (ea_cons (vv 1) ea_nil) ⟨_, b, rfl, rfl, pb, by omega, rfl⟩) ?_
  refine d_set 4 scPairs.nd (ev_lst ea_nil rfl (by decide)) ?_
  unfold pairsV
  generalize spotsV a = u at lu
  generalize spotsV b = v at lv
  have bnd : a.length * a.length ≤ 250000 := Nat.mul_le_mul hl hl
  refine d_forP (List.range a.length) (fun k : Nat => .int k) (rowP a.length u v) [] (fun acc => [.va (encT a), .va (encT b), .ow (.lst (u.map .int)), .ow (.lst (v.map .int)), .ow (.lst (acc.map encT)), .no, .no]) (passes_of rfl) rfl (Ei.as (i_rng T.range (e_len T.len (vo 2)) (by rw [List.length_map]; omega)) (by rw [List.length_map, lu])) (.eq (.eq (.eq (.eq (.eq (.eq (.eq .nil))))))) ?_ (d_retV 4 rfl)
  intro acc i pre post hx hacc
  have hi := rng_lt hx
  have la : acc.length ≤ pre.length * a.length := by
    rw [hacc]
    have := rowP_len a.length u v pre []
    simpa using this
  have lp : pre.length < a.length := by
    have := congrArg List.length hx
    rw [List.length_range, List.length_append, List.length_cons] at this
    omega
  have la2 : acc.length ≤ 250000 := Nat.le_trans la (Nat.le_trans (Nat.mul_le_mul_right _ (Nat.le_of_lt lp)) bnd)
  refine ⟨_, [.va (encT a), .va (encT b), .ow (.lst (u.map .int)), .ow (.lst (v.map .int)), .ow (.lst ((rowP a.length u v acc i).map encT)), .va (.int i), .no], t_name 5 scPairs.nd, ?_, .eq (.eq (.eq (.eq (.eq (.no (.eq .nil))))))⟩
  refine d_forP (List.range (a.length - (i + 1))) (fun k : Nat => .int ((i + 1 + k : Nat) : Int)) (stepP u v i) acc (fun acc => [.va (encT a), .va (encT b), .ow (.lst (u.map .int)), .ow (.lst (v.map .int)), .ow (.lst (acc.map encT)), .va (.int i), .no]) (passes_of rfl) rfl
    (Ei.as (i_rng2 (i := i + 1) (j := a.length) T.range ((ev_add (vv 5) ev_int).ii (j := ((i + 1 : Nat) : Int)) rfl) ((e_len T.len (vo 2)).ii (by rw [List.length_map, lu])) (by omega) (by omega)) rfl) (.eq (.eq (.eq (.eq (.eq (.eq (.eq .nil))))))) ?_ sds_nil
  intro acc2 k pre2 post2 hx2 hacc2
  have hk := rng_lt hx2
  have la3 : acc2.length ≤ 1000000 := by
    rw [hacc2]
    have := stepP_len u v i pre2 acc
    have lp2 := congrArg List.length hx2
    rw [List.length_range, List.length_append, List.length_cons] at lp2
    omega
  have at_ : ∀ (s : List Int) (j : Nat), s.length = a.length → j < a.length → L2.atI (s.map D.int) (j : Int) = some (.int (s.getD j 0)) := fun s j h hj => atI_map (getD_at (by omega))
  refine ⟨_, [.va (encT a), .va (encT b), .ow (.lst (u.map .int)), .ow (.lst (v.map .int)), .ow (.lst ((stepP u v i acc2 k).map encT)), .va (.int i), .va (.int ((i + 1 + k : Nat) : Int))], t_name 6 scPairs.nd, ?_, .eq (.eq (.eq (.eq (.eq (.eq (.no .nil))))))⟩
  refine sds_ifn [.va (encT a), .va (encT b), .ow (.lst (u.map .int)), .ow (.lst (v.map .int)), .ow (.lst ((stepP u v i acc2 k).map encT)), .va (.int i), .va (.int ((i + 1 + k : Nat) : Int))]
    (et_c cm_neB (ev_c cm_lt (ev_ixL (vo 2) (vv 5) (at_ u i lu hi)) (ev_ixL (vo 2) (vv 6) (at_ u (i + 1 + k) lu (by omega)))) (ev_c cm_lt (ev_ixL (vo 3) (vv 5) (at_ v i (by omega) hi)) (ev_ixL (vo 3) (vv 6) (at_ v (i + 1 + k) (by omega) (by omega))))) (fun c => ?_) (fun c => ?_) sds_nil
  · have c2 : (!decide (lessAt u i (i + 1 + k) = lessAt v i (i + 1 + k))) = true := c
    have c' : ¬ lessAt u i (i + 1 + k) = lessAt v i (i + 1 + k) := fun z => by rw [decide_eq_true z] at c2; exact absurd c2 (by decide)
    refine d_app 4 (ev_tup (ea_cons (vv 5) (ea_cons (vv 6) ea_nil)) rfl (by show 2 ≤ _; decide)) ?_ (sds_nilq ?_)
    · rw [List.length_map]
      exact la3
    · unfold stepP
      rw [if_neg c', List.map_append]
      rfl
  · have c2 : (!decide (lessAt u i (i + 1 + k) = lessAt v i (i + 1 + k))) = false := c
    have c' : lessAt u i (i + 1 + k) = lessAt v i (i + 1 + k) := Decidable.byContradiction fun z => by rw [decide_eq_false z] at c2; exact absurd c2 (by decide)
    refine sds_nilq ?_
    unfold stepP
    rw [if_pos c']
    rfl
theorem ok_pairsL {f : Addr} {fd : FuncData} (F : Fun K "_law_unlike" "_law_unlike" sUnlikeL f fd) (T : Bi mg) (G : FnG Pr w K mg base "_law_spots" 1 ["order"] pSpots) : FnOk Pr w K mg base (L2N.CX Pr w) 2 f fd ["first", "second"] (mkSp K pPairs) := by
  refine fn_sds F scPairsL (fun Γ o ⟨_, _, h2, _⟩ => by rw [h2]; rfl) fun cdv A outer s H E hr H0 Oc Γ o ⟨a, b, h3, pa, pb, he, hl, h4⟩ => ?_
  subst h3 h4
  refine ⟨.ret (.ow (.lst ((pairsV a b).map encT))), ?_, rfl⟩
  have lu := spotsV_len a
  have lv := spotsV_len b
  refine d_set 2 scPairsL.nd (ev_call G hr (ea_cons (vv 0) ea_nil) ⟨_, a, rfl, rfl, pa, by omega, rfl⟩) ?_
  refine d_set 3 scPairsL.nd (ev_call G hr (ea_cons (vv 1) ea_nil) ⟨_, b, rfl, rfl, pb, by omega, rfl⟩) ?_
  refine d_set 4 scPairsL.nd (ev_lst ea_nil rfl (by decide)) ?_
  unfold pairsV
  generalize spotsV a = u at lu
  generalize spotsV b = v at lv
  have bnd : a.length * a.length ≤ 250000 := Nat.mul_le_mul hl hl
  refine d_forP (List.range a.length) (fun k : Nat => .int k) (rowP a.length u v) [] (fun acc => [.va (encT a), .va (encT b), .ow (.lst (u.map .int)), .ow (.lst (v.map .int)), .ow (.lst (acc.map encT)), .no, .no]) (passes_of rfl) rfl (Ei.as (i_rng T.range (e_len T.len (vo 2)) (by rw [List.length_map]; omega)) (by rw [List.length_map, lu])) (.eq (.eq (.eq (.eq (.eq (.eq (.eq .nil))))))) ?_ (d_retV 4 rfl)
  intro acc i pre post hx hacc
  have hi := rng_lt hx
  have la : acc.length ≤ pre.length * a.length := by
    rw [hacc]
    have := rowP_len a.length u v pre []
    simpa using this
  have lp : pre.length < a.length := by
    have := congrArg List.length hx
    rw [List.length_range, List.length_append, List.length_cons] at this
    omega
  have la2 : acc.length ≤ 250000 := Nat.le_trans la (Nat.le_trans (Nat.mul_le_mul_right _ (Nat.le_of_lt lp)) bnd)
  refine ⟨_, [.va (encT a), .va (encT b), .ow (.lst (u.map .int)), .ow (.lst (v.map .int)), .ow (.lst ((rowP a.length u v acc i).map encT)), .va (.int i), .no], t_name 5 scPairsL.nd, ?_, .eq (.eq (.eq (.eq (.eq (.no (.eq .nil))))))⟩
  refine d_forP (List.range (a.length - (i + 1))) (fun k : Nat => .int ((i + 1 + k : Nat) : Int)) (stepP u v i) acc (fun acc => [.va (encT a), .va (encT b), .ow (.lst (u.map .int)), .ow (.lst (v.map .int)), .ow (.lst (acc.map encT)), .va (.int i), .no]) (passes_of rfl) rfl
    (Ei.as (i_rng2 (i := i + 1) (j := a.length) T.range ((ev_add (vv 5) ev_int).ii (j := ((i + 1 : Nat) : Int)) rfl) ((e_len T.len (vo 2)).ii (by rw [List.length_map, lu])) (by omega) (by omega)) rfl) (.eq (.eq (.eq (.eq (.eq (.eq (.eq .nil))))))) ?_ sds_nil
  intro acc2 k pre2 post2 hx2 hacc2
  have hk := rng_lt hx2
  have la3 : acc2.length ≤ 1000000 := by
    rw [hacc2]
    have := stepP_len u v i pre2 acc
    have lp2 := congrArg List.length hx2
    rw [List.length_range, List.length_append, List.length_cons] at lp2
    omega
  have at_ : ∀ (s : List Int) (j : Nat), s.length = a.length → j < a.length → L2.atI (s.map D.int) (j : Int) = some (.int (s.getD j 0)) := fun s j h hj => atI_map (getD_at (by omega))
  refine ⟨_, [.va (encT a), .va (encT b), .ow (.lst (u.map .int)), .ow (.lst (v.map .int)), .ow (.lst ((stepP u v i acc2 k).map encT)), .va (.int i), .va (.int ((i + 1 + k : Nat) : Int))], t_name 6 scPairsL.nd, ?_, .eq (.eq (.eq (.eq (.eq (.eq (.no .nil))))))⟩
  refine sds_ifn [.va (encT a), .va (encT b), .ow (.lst (u.map .int)), .ow (.lst (v.map .int)), .ow (.lst ((stepP u v i acc2 k).map encT)), .va (.int i), .va (.int ((i + 1 + k : Nat) : Int))]
    (et_c cm_neB (ev_c cm_lt (ev_ixL (vo 2) (vv 5) (at_ u i lu hi)) (ev_ixL (vo 2) (vv 6) (at_ u (i + 1 + k) lu (by omega)))) (ev_c cm_lt (ev_ixL (vo 3) (vv 5) (at_ v i (by omega) hi)) (ev_ixL (vo 3) (vv 6) (at_ v (i + 1 + k) (by omega) (by omega))))) (fun c => ?_) (fun c => ?_) sds_nil
  · have c2 : (!decide (lessAt u i (i + 1 + k) = lessAt v i (i + 1 + k))) = true := c
    have c' : ¬ lessAt u i (i + 1 + k) = lessAt v i (i + 1 + k) := fun z => by rw [decide_eq_true z] at c2; exact absurd c2 (by decide)
    refine d_app 4 (ev_tup (ea_cons (vv 5) (ea_cons (vv 6) ea_nil)) rfl (by show 2 ≤ _; decide)) ?_ (sds_nilq ?_)
    · rw [List.length_map]
      exact la3
    · unfold stepP
      rw [if_neg c', List.map_append]
      rfl
  · have c2 : (!decide (lessAt u i (i + 1 + k) = lessAt v i (i + 1 + k))) = false := c
    have c' : lessAt u i (i + 1 + k) = lessAt v i (i + 1 + k) := Decidable.byContradiction fun z => by rw [decide_eq_false z] at c2; exact absurd c2 (by decide)
    refine sds_nilq ?_
    unfold stepP
    rw [if_pos c']
    rfl
end
end K91

namespace K91
open PySem PySem.Spec PyProof.Rows L2 Y
/-! ### Orders -/
def encP (p : Int × Int) : D := .tup [.int p.1, .int p.2]
def ordD (C : Addr) (n : Nat) (F : List (Int × Int)) : D := .obj C ["size", "count", "facts"] [.int n, .int n, .lst (F.map encP)]
/-- facts of n things -/
def OkF (n : Nat) (F : List (Int × Int)) : Prop := ∀ p ∈ F, (0 ≤ p.1 ∧ p.1 < (n : Int)) ∧ 0 ≤ p.2 ∧ p.2 < (n : Int)
def idV (n : Nat) : List Int := (List.range n).map fun k : Nat => (k : Int)
def holds (s : List Int) (p : Int × Int) : Bool := decide ((spotsV s).getD p.1.toNat 0 < (spotsV s).getD p.2.toNat 0)
def isAns (n : Nat) (F : List (Int × Int)) (s : List Int) : Bool := decide (sortI s = idV n) && F.all (holds s)
def isChg (n : Nat) (F : List (Int × Int)) (a b : List Int) : Bool := isAns n F a && isAns n F b && (decide ((unlikeV a b).length = 2) && decide ((unlikeV a b).getD 1 0 = (unlikeV a b).getD 0 0 + 1))
def nextV (n : Nat) (F : List (Int × Int)) (s : List Int) : List (List Int) := sortL (((List.range (n - 1)).map fun k => swapV s k (k + 1)).filter (isAns n F))
theorem sortI_perm (s : List Int) : (sortI s).Perm s := List.mergeSort_perm _ _
theorem ans_pl {n : Nat} {s : List Int} (h : sortI s = idV n) : s.length = n ∧ ∀ x ∈ s, 0 ≤ x ∧ x < (n : Int) := by
  have p := sortI_perm s
  rw [h] at p
  refine ⟨by rw [← p.length_eq]; unfold idV; simp, fun x hx => ?_⟩
  have := p.mem_iff.mpr hx
  unfold idV at this
  obtain ⟨k, hk, rfl⟩ := List.mem_map.mp this
  have := List.mem_range.mp hk
  omega
theorem ans_Pl {n : Nat} {s : List Int} (h : sortI s = idV n) : Pl s := fun x hx => by
  obtain ⟨h1, h2⟩ := ans_pl h
  rw [h1]
  exact h2 x hx
theorem getDn {o : List Nat} {k : Nat} (h : k < o.length) : o[k]? = some (o.getD k 0) := by
  rw [List.getD_eq_getElem?_getD, List.getElem?_eq_getElem h]
  rfl
structure OrdT (K : PySem.W.Frag) (C : Addr) : Prop where
  cl : Cls K C
  noS : NoAttr K C "size"
  noC : NoAttr K C "count"
  noF : NoAttr K C "facts"
section
variable {Pr : Program} {w : World} {K : PySem.W.Frag} {mg : Str → Option Value} {base : Heap}
/-- World.__init__ of an instance of the class at C -/
def pWorld (C : Addr) : Pm := fun Γ o => ∃ n : Int, Γ = [.va (.int n)] ∧ o = .ret (.ow (.obj C ["size"] [.int n]))
theorem scWInit : FnScope ["self", "size"] ["self", "size"] (defScope wInit) := ⟨rfl, rfl, rfl, by decide +kernel, rfl, by decide +kernel, by decide +kernel⟩
theorem ok_winit {f C : Addr} {fd : FuncData} (F : Fun K "__init__" "World.__init__" wInit f fd) (R : OrdT K C) : FnOk Pr w K mg base (L2N.CX Pr w) 1 f fd ["self", "size"] (mkSpI K C (pWorld C)) := by
  refine init_sds F scWInit (fun Γ o ⟨n, h2, _⟩ => by rw [h2]; rfl) fun cdv A outer s H E hr H0 Oc Γ o a ⟨n, h2, h3⟩ => ?_
  subst h2 h3
  exact ⟨.nx [.ow (.slf a C ["size"] [.int n]), .va (.int n)], d_fld 0 R.cl R.noS (vv 1) sds_nil, ["size"], [.int n], rfl, rfl⟩
def pIsAns (C : Addr) : Pm := fun Γ o => ∃ (s0 : Sl) (n : Nat) (F : List (Int × Int)) (s : List Int), Γ = [s0, .va (encT s)] ∧ One s0 (ordD C n F) ∧ OkF n F ∧ F.length ≤ 1000 ∧ n ≤ 500 ∧ o = .ret (.va (.bl (isAns n F s)))
theorem scIsAns : FnScope ["self", "setting", "spots", "one", "other"] ["self", "setting"] (defScope oIsAnswer) := ⟨rfl, rfl, rfl, by decide +kernel, rfl, by decide +kernel, by decide +kernel⟩
theorem ok_isAns {f C : Addr} {fd : FuncData} (F : Fun K "is_answer" "Orders.is_answer" oIsAnswer f fd) (T : Bi mg) (R : OrdT K C) (G : FnG Pr w K mg base "spots_of" 1 ["setting"] pSpots) : FnOk Pr w K mg base (L2N.CX Pr w) 2 f fd ["self", "setting"] (mkSp K (pIsAns C)) := by
  refine fn_sds F scIsAns (fun Γ o ⟨_, _, _, _, h2, _⟩ => by rw [h2]; rfl) fun cdv A outer s H E hr H0 Oc Γ o ⟨s0, n, Fs, st, h3, h1, hF, hFl, hn, h4⟩ => ?_
  subst h3 h4
  refine ⟨.ret (.va (.bl (isAns n Fs st))), ?_, rfl⟩
  refine d_ifx (et_c (c_ne (f := fun ns : List Int => D.lst (ns.map .int)) (hu64 hr) eqLI 1 okLI (by decide) (sortI st) (idV n)) (e_sortTI T.sorted (vb 1)).r (Ev.aso (d' := .lst ((idV n).map .int)) (e_listRg (n := n) T.list T.range rfl (ev_fld R.cl R.noC (vb 0 rfl h1) rfl) (by omega)) (by unfold idV; rw [List.map_map]; rfl)).r) rfl (fun c => d_ret ev_bl ?_) (fun c => ?_)
  · have : decide (sortI st = idV n) = false := by simpa using c
    unfold isAns
    rw [this]
    rfl
  · have hs : sortI st = idV n := by simpa using c
    obtain ⟨hl, hb⟩ := ans_pl hs
    have lu := spotsV_len st
    refine d_set 2 scIsAns.nd (ev_call G hr (ea_cons (vv 1) ea_nil) ⟨_, st, rfl, rfl, ans_Pl hs, by omega, rfl⟩) ?_
    refine d_ret (e_allL (holds st) T.all rfl (e_lc (own := [("one", 3), ("other", 4)]) Fs encP (fun p => .bl (holds st p)) (fun p => [s0.arg, .va (encT st), .br (.lst ((spotsV st).map .int)), .va (.int p.1), .va (.int p.2)]) rfl scIsAns.nd (blkOk_by (by rfl)) (ei_lst (ev_fld R.cl R.noF (vb 0 rfl h1) rfl) rfl) (by omega)
      (fun x hx _ _ _ _ _ _ _ => tw_two 3 4 rfl scIsAns.nd) (fun p _ => ⟨stab_arg (G := [s0, .va (encT st), .br (.lst []), .va (.int p.1), .va (.int p.2)]), .eq (.eq (.eq (.no (.no .nil))))⟩) ?_)) ?_
    · intro p hp _ _ _ _ _ _ _
      obtain ⟨b1, b2⟩ := hF p hp
      have g1 : L2.atI ((spotsV st).map D.int) p.1 = some (.int ((spotsV st).getD p.1.toNat 0)) := by
        have e : p.1 = (p.1.toNat : Int) := by omega
        rw [e, Int.toNat_natCast]
        exact atI_map (getD_at (by omega))
      have g2 : L2.atI ((spotsV st).map D.int) p.2 = some (.int ((spotsV st).getD p.2.toNat 0)) := by
        have e : p.2 = (p.2.toNat : Int) := by omega
        rw [e, Int.toNat_natCast]
        exact atI_map (getD_at (by omega))
      exact ev_c cm_lt (ev_ixL (vb 2) (vv 3) g1) (ev_ixL (vb 2) (vv 4) g2)
    · unfold isAns
      rw [decide_eq_true hs]
      rfl
def pIsChg (C : Addr) : Pm := fun Γ o => ∃ (s0 : Sl) (n : Nat) (F : List (Int × Int)) (a b : List Int), Γ = [s0, .va (encT a), .va (encT b)] ∧ One s0 (ordD C n F) ∧ OkF n F ∧ F.length ≤ 1000 ∧ n ≤ 500 ∧ o = .ret (.va (.bl (isChg n F a b)))
theorem scIsChg : FnScope ["self", "first", "second", "spots"] ["self", "first", "second"] (defScope oIsChange) := ⟨rfl, rfl, rfl, by decide +kernel, rfl, by decide +kernel, by decide +kernel⟩
theorem ok_isChg {f C : Addr} {fd : FuncData} (F : Fun K "is_change" "Orders.is_change" oIsChange f fd) (T : Bi mg) (R : OrdT K C) (M : MtG Pr w K mg base C "is_answer" 2 ["self", "setting"] (pIsAns C)) (G : FnG Pr w K mg base "unlike" 1 ["first", "second"] pUnlike) : FnOk Pr w K mg base (L2N.CX Pr w) 3 f fd ["self", "first", "second"] (mkSp K (pIsChg C)) := by
  refine fn_sds F scIsChg (fun Γ o ⟨_, _, _, _, _, h2, _⟩ => by rw [h2]; rfl) fun cdv A outer s H E hr H0 Oc Γ o ⟨s0, n, Fs, a, b, h3, h1, hF, hFl, hn, h4⟩ => ?_
  subst h3 h4
  refine ⟨.ret (.va (.bl (isChg n Fs a b))), ?_, rfl⟩
  refine d_ifx (et_w (ew_or (et_not (et_val (ev_meth R.cl M hr (vb 0 rfl h1) rfl (by decide) (ea_cons (vv 1) ea_nil) ⟨_, n, Fs, a, rfl, rfl, hF, hFl, hn, rfl⟩))) fun _ => ew_or1 (et_not (et_val (ev_meth R.cl M hr (vb 0 rfl h1) rfl (by decide) (ea_cons (vv 2) ea_nil) ⟨_, n, Fs, b, rfl, rfl, hF, hFl, hn, rfl⟩))))) rfl (fun c => d_ret ev_bl ?_) (fun c => ?_)
  · unfold isChg
    have : (isAns n Fs a && isAns n Fs b) = false := by
      cases h : isAns n Fs a <;> cases h' : isAns n Fs b <;> simp [h, h'] at c ⊢
    rw [this]
    rfl
  · have e1 : isAns n Fs a = true ∧ isAns n Fs b = true := by
      cases h : isAns n Fs a <;> cases h' : isAns n Fs b <;> simp [h, h'] at c ⊢
    have la := (ans_pl (of_decide_eq_true (Bool.and_eq_true_iff.mp e1.1).1)).1
    have lb := (ans_pl (of_decide_eq_true (Bool.and_eq_true_iff.mp e1.2).1)).1
    refine d_set 3 scIsChg.nd (ev_call G (hr.mono (by decide)) (ea_cons (vv 1) (ea_cons (vv 2) ea_nil)) ⟨a, b, rfl, by omega, by omega, rfl⟩) ?_
    refine d_ret (ev_and (ev_c cm_eqI (e_len T.len (vo 3)) ev_int) fun c2 => ev_one (ev_c cm_eqI (ev_ixL (d := .int ((unlikeV a b).getD 1 0 : Nat)) (vo 3) ev_int ?_) (ev_add (ev_ixL (d := .int ((unlikeV a b).getD 0 0 : Nat)) (vo 3) ev_int ?_) ev_int))) ?_
    · have c3 := of_decide_eq_true c2
      rw [List.length_map] at c3
      exact atI_map (k := 1) (getDn (o := unlikeV a b) (by omega))
    · have c3 := of_decide_eq_true c2
      rw [List.length_map] at c3
      exact atI_map (k := 0) (getDn (o := unlikeV a b) (by omega))
    · unfold isChg
      have e2 : decide (((unlikeV a b).length : Int) = 2) = decide ((unlikeV a b).length = 2) := decide_eq_decide.mpr ⟨fun h => by omega, fun h => by omega⟩
      have e3 : decide ((((unlikeV a b).getD 1 0 : Nat) : Int) = (((unlikeV a b).getD 0 0 : Nat) : Int) + 1) = decide ((unlikeV a b).getD 1 0 = (unlikeV a b).getD 0 0 + 1) := decide_eq_decide.mpr ⟨fun h => by omega, fun h => by omega⟩
      rw [e1.1, e1.2, List.length_map, e2, e3]
      rfl
def pBlocked (C : Addr) : Pm := fun Γ o => ∃ (s0 s1 s2 s3 : Sl), Γ = [s0, s1, s2, s3] ∧ o = .ret (.va (.bl false))
theorem scBlocked : FnScope ["self", "setting", "parts", "part"] ["self", "setting", "parts", "part"] (defScope oBlocked) := ⟨rfl, rfl, rfl, by decide +kernel, rfl, by decide +kernel, by decide +kernel⟩
theorem ok_blocked {f C : Addr} {fd : FuncData} (F : Fun K "blocked" "Orders.blocked" oBlocked f fd) : FnOk Pr w K mg base (L2N.CX Pr w) 1 f fd ["self", "setting", "parts", "part"] (mkSp K (pBlocked C)) := by
  refine fn_sds F scBlocked (fun Γ o ⟨_, _, _, _, h2, _⟩ => by rw [h2]; rfl) fun cdv A outer s H E hr H0 Oc Γ o ⟨s0, s1, s2, s3, h3, h4⟩ => ?_
  subst h3 h4
  exact ⟨.ret (.va (.bl false)), d_ret ev_bl rfl, rfl⟩
end
end K91

namespace K91
open PySem PySem.Spec PyProof.Rows L2 Y
theorem i_rngZ {X : Cx} {H0 : Hp} {Oc : List Addr} {Γ : List Sl} {a tg : Expr} {p pos : Pos} {j : Int} (n : Nat) (hm : X.mg "range" = none) (ha : Ev X H0 Oc Γ a (.va (.int j))) (hn : j.toNat = n) (h1 : -1000000000 ≤ j) (h2 : j ≤ 1000000000) (hg : Gl X "range" := by rfl) (hs : starEach [a] X.env = [(false, eval a X.env)] := by rfl) (hs' : starEach [a] X.env = (false, eval a X.env) :: starEach [] X.env := by rfl) :
    Ei X H0 Oc Γ tg (.Call (.Name "range" p) [a] [] pos) ((List.range n).map fun k : Nat => D.int k) :=
  (ei_rng1 ha h1 h2 hm hg hs hs').as (by
    unfold rngD
    rw [hn]
    exact List.map_congr_left fun k _ => by rw [Int.zero_add])
theorem _root_.Y.Ev.as_b {X : Cx} {H0 : Hp} {Oc : List Addr} {Γ : List Sl} {e : Expr} {d d' : D} (h : Ev X H0 Oc Γ e (.bw d)) (hd : d = d') : Ev X H0 Oc Γ e (.bw d') := hd ▸ h
theorem ans_bd {n : Nat} {F : List (Int × Int)} {s : List Int} (h : isAns n F s = true) : s.length = n ∧ TS.Bd (n : Int) s := by
  obtain ⟨h1, h2⟩ := ans_pl (of_decide_eq_true (Bool.and_eq_true_iff.mp h).1)
  exact ⟨h1, fun x hx => h2 x hx⟩
section
variable {Pr : Program} {w : World} {K : PySem.W.Frag} {mg : Str → Option Value} {base : Heap}
def pNext (C : Addr) : Pm := fun Γ o => ∃ (s0 : Sl) (n : Nat) (F : List (Int × Int)) (s : List Int), Γ = [s0, .va (encT s)] ∧ One s0 (ordD C n F) ∧ stab [s0] = true ∧ OkF n F ∧ F.length ≤ 1000 ∧ n ≤ 60 ∧ isAns n F s = true ∧ o = .ret (.ow (.lst ((nextV n F s).map encT)))
theorem scNext : FnScope ["self", "setting", "found", "spot", "other"] ["self", "setting"] (defScope oNext) := ⟨rfl, rfl, rfl, by decide +kernel, rfl, by decide +kernel, by decide +kernel⟩
theorem ok_next {f C : Addr} {fd : FuncData} (F : Fun K "next_answers" "Orders.next_answers" oNext f fd) (T : Bi mg) (R : OrdT K C) (M : MtG Pr w K mg base C "is_answer" 2 ["self", "setting"] (pIsAns C)) (G : FnG Pr w K mg base "exchanged" 1 ["setting", "spot"] pExch) : FnOk Pr w K mg base (L2N.CX Pr w) 3 f fd ["self", "setting"] (mkSp K (pNext C)) := by
  refine fn_sds F scNext (fun Γ o ⟨_, _, _, _, h2, _⟩ => by rw [h2]; rfl) fun cdv A outer s H E hr H0 Oc Γ o ⟨s0, n, Fs, st, h3, h1, hst, hF, hFl, hn, ha, h4⟩ => ?_
  subst h3 h4
  refine ⟨.ret (.ow (.lst ((nextV n Fs st).map encT))), ?_, rfl⟩
  obtain ⟨hl, hb⟩ := ans_bd ha
  have q0 : s0.arg.dat = some (ordD C n Fs) := by rw [← h1]; cases s0 <;> rfl
  refine d_setLc (own := [("spot", 3)]) 2 (List.range (n - 1)) (fun k : Nat => .int k) (fun k => encT (swapV st k (k + 1))) (fun k => [s0.arg, .va (encT st), .no, .va (.int k), .no]) rfl scNext.nd (blkOk_by (by rfl)) (i_rngZ (n - 1) T.range (ev_sub (ev_fld R.cl R.noC (vb 0 rfl h1) rfl) ev_int) (by omega) (by omega) (by omega)) (by rw [List.length_range]; omega)
    (fun x hx _ _ _ _ _ _ _ => tw_name 3 scNext.nd) (fun k _ => ⟨stab_arg (G := [s0, .va (encT st), .no, .va (.int k), .no]), .eq (.eq (.eq (.no (.eq .nil))))⟩) (fun k hk _ _ _ _ _ _ _ => ?_) ?_
  · have hk := List.mem_range.mp hk
    exact ev_call G (hr.mono (by decide)) (ea_cons (vv 1) (ea_cons (vv 3) ea_nil)) ⟨st, k, rfl, by omega, by omega, rfl⟩
  refine sds_freeze 2 rfl ?_
  have e0 : ((List.range (n - 1)).map fun k => encT (swapV st k (k + 1))) = (((List.range (n - 1)).map fun k => swapV st k (k + 1)).map encT) := by rw [List.map_map]; rfl
  unfold nextV
  rw [e0]
  have lf : ((List.range (n - 1)).map fun k => swapV st k (k + 1)).length = n - 1 := by rw [List.length_map, List.length_range]
  generalize ((List.range (n - 1)).map fun k => swapV st k (k + 1)) = L at lf
  have lff := List.length_filter_le (isAns n Fs) L
  refine d_retO (d := .lst ((sortL (L.filter (isAns n Fs))).map encT)) (e_sortL (max n 1) (max n 1 : Nat) (by omega) T.sorted ?_ (by omega) fun x hx => ?_) rfl
  · refine Ev.r (s := .ow (.lst ((L.filter (isAns n Fs)).map encT))) ?_ rfl
    refine (e_lcf (own := [("other", 4)]) L encT (isAns n Fs) encT (fun x => [s0.arg, .va (encT st), .va (.lst (L.map encT)), .no, .va (encT x)]) rfl scNext.nd (blkOk_by (by rfl)) (ei_lst (vv 2) rfl) (by omega) (fun x hx _ _ _ _ _ _ _ => tw_name 4 scNext.nd) (fun x _ => ⟨stab_arg (G := [s0, .va (encT st), .va (.lst (L.map encT)), .no, .va (encT x)]), .eq (.eq (.eq (.eq (.no .nil))))⟩)
      (fun x hx _ _ _ _ _ _ _ => et_val (ev_meth R.cl M hr (vb 0 rfl q0) rfl (by decide) (ea_cons (vv 4) ea_nil) ⟨_, n, Fs, x, rfl, rfl, hF, hFl, by omega, rfl⟩)) (fun x hx _ _ _ _ _ _ _ _ => vv 4))
  · obtain ⟨m1, m2⟩ := List.mem_filter.mp hx
    obtain ⟨b1, b2⟩ := ans_bd m2
    have n0 : 0 < L.length := List.length_pos_of_mem m1
    have e : max n 1 = n := by omega
    rw [e]
    exact ⟨b1, b2⟩
/-! ### Orders.__init__ -/
def badF (n : Int) (p : Int × Int) : Bool := decide (min p.1 p.2 < 0) || (decide (n ≤ max p.1 p.2) || decide (p.1 = p.2))
def badFrom (n : Int) : Nat → List (Int × Int) → Option Nat
  | _, [] => none
  | i, p :: ps => if badF n p = true then some i else badFrom n (i + 1) ps
def ordErr (n : Int) (F : List (Int × Int)) : Option Int := if n < 0 ∨ 9 < n ∨ 36 < F.length then some (-1) else (badFrom n 0 F).map fun i : Nat => (i : Int)
def toL (p : Int × Int) : List Int := [p.1, p.2]
def ofL (l : List Int) : Int × Int := (l.getD 0 0, l.getD 1 0)
def sortF (F : List (Int × Int)) : List (Int × Int) := (sortSet (F.map toL)).map ofL
theorem mem_sortF {F : List (Int × Int)} {p : Int × Int} : p ∈ sortF F ↔ p ∈ F := by
  unfold sortF
  rw [List.mem_map]
  constructor
  · rintro ⟨l, hl, rfl⟩
    rw [mem_sortSet] at hl
    obtain ⟨q, hq, rfl⟩ := List.mem_map.mp hl
    exact hq
  · intro hp
    exact ⟨toL p, mem_sortSet.mpr (List.mem_map.mpr ⟨p, hp, rfl⟩), rfl⟩
theorem sortF_enc (F : List (Int × Int)) : (sortSet (F.map toL)).map encT = (sortF F).map encP := by
  unfold sortF
  rw [List.map_map]
  refine List.map_congr_left fun l hl => ?_
  rw [mem_sortSet] at hl
  obtain ⟨q, hq, rfl⟩ := List.mem_map.mp hl
  rfl
theorem badFrom_none {n : Int} : ∀ {F : List (Int × Int)} {i : Nat}, badFrom n i F = none → ∀ p ∈ F, badF n p = false
  | [], _, _, p, hp => by simp at hp
  | q :: F, i, h, p, hp => by
    unfold badFrom at h
    cases e : badF n q with
    | true => rw [e] at h; simp at h
    | false =>
      rw [e] at h
      rcases List.mem_cons.mp hp with rfl | hp
      · exact e
      · exact badFrom_none (by simpa using h) p hp
theorem badF_ok {n : Nat} {p : Int × Int} (h : badF n p = false) : (0 ≤ p.1 ∧ p.1 < (n : Int)) ∧ 0 ≤ p.2 ∧ p.2 < (n : Int) := by
  unfold badF at h
  simp only [Bool.or_eq_false_iff, decide_eq_false_iff_not] at h
  omega
def pOrd (C CB : Addr) : Pm := fun Γ o => ∃ (s1 : Sl) (n : Int) (F : List (Int × Int)), Γ = [.va (.int n), s1] ∧ s1 = .br (.lst (F.map encP)) ∧ F.length ≤ 1000 ∧ o = match ordErr n F with
  | none => .ret (.ow (ordD C n.toNat (sortF F)))
  | some i => .exc CB ["index"] [.int i] none
def NO : List Str := ["self", "count", "facts", "__class__", "index", "one", "other"]
theorem ndO : NO.Nodup := by decide +kernel
def stepO (CB : Addr) (n : Int) : Unit → Nat × (Int × Int) → Except Out Unit := fun _ p => if badF n p.2 = true then .error (.exc CB ["index"] [.int (p.1 : Int)] none) else .ok ()
theorem runO (CB : Addr) (n : Int) : ∀ (i : Nat) (F : List (Int × Int)), runE (stepO CB n) () (enumF i F) = match badFrom n i F with | none => .ok () | some j => .error (.exc CB ["index"] [.int (j : Int)] none)
  | _, [] => rfl
  | i, p :: F => by
    have ih := runO CB n (i + 1) F
    cases e : badF n p with
    | true => simp [runE, enumF, stepO, badFrom, e]
    | false =>
      simp [runE, enumF, stepO, badFrom, e] at ih ⊢
      exact ih
structure OrdG (Pr : Program) (K : PySem.W.Frag) (mg : Str → Option Value) (C CB fO fW cda cc : Addr) (fdO : FuncData) : Prop where
  at_ : Sup.SupAt Pr K mg fO cda cc C fdO "self"
  su : Sup.SupI K C C fW
  err : Sup.Ex1 Pr K mg "BadWorld" "index" CB
  most : ∃ t, mg "MOST_THINGS" = some (.int 9 t)
  mostF : ∃ t, mg "MOST_FACTS" = some (.int 36 t)
theorem ok_oinit {fO fW C CB cda cc : Addr} {fdW : FuncData} {dV kV doc pm ct oc : Value} {an od : Option Addr} {osl : Array (Option Value)} (T : Bi mg) (R : OrdT K C)
    (lk : K.lookup fO = some ⟨oc, od, .func (PySem.W.fnX "__init__" "Orders.__init__" (defArgs oInit) (defBody oInit) (defScope oInit) [("__class__", cc)] dV kV doc pm an (.ref cda) ct), osl⟩) (hcd : PySem.W.codeIn K (.ref cda) "Orders.__init__" = true)
    (hcell : ∃ cl cld csl, K.lookup cc = some ⟨cl, cld, .cell (some (.ref C)), csl⟩) (G : OrdG Pr K mg C CB fO fW cda cc (PySem.W.fnX "__init__" "Orders.__init__" (defArgs oInit) (defBody oInit) (defScope oInit) [("__class__", cc)] dV kV doc pm an (.ref cda) ct))
    (FW : FnOk Pr w K mg base (L2N.CX Pr w) 1 fW fdW ["self", "size"] (mkSpI K C (pWorld C))) (bW : L2.Binds K fdW ["self", "size"] []) :
    FnOk Pr w K mg base (L2N.CX Pr w) 4 fO (PySem.W.fnX "__init__" "Orders.__init__" (defArgs oInit) (defBody oInit) (defScope oInit) [("__class__", cc)] dV kV doc pm an (.ref cda) ct) ["self", "count", "facts"] (mkSpI K C (pOrd C CB)) := by
  refine initS_sds (N := NO) lk hcd (NdefX.nscope_by (by decide +kernel)) hcell (fun Γ o ⟨_, _, _, h2, _⟩ => by rw [h2]; rfl) fun A outer s H E hr H0 Oc Γ o a ⟨s1, n, Fs, h3, h1, hFl, h4⟩ => ?_
  subst h3 h1
  have if1 : ∀ (q : Bool), q = (decide (n < 0) || (decide (9 < n) || decide (36 < (Fs.length : Int)))) → ∀ {out : Out}, (q = true → out = .exc CB ["index"] [.int (-1)] none) → (q = false → out = .nx [.ow (.slf a C [] []), .va (.int n), .br (.lst (Fs.map encP)), .va (.opq (.ref C)), .no, .no, .no]) →
      Sds (NdefX.ncx (L2N.CX Pr w) Pr w K mg base NO ⟨"__init__", "Orders.__init__", defArgs oInit, defBody oInit, defScope oInit, [("__class__", cc)], cda⟩ fO A outer s H E) (wx E) H0 Oc [.ow (.slf a C [] []), .va (.int n), .br (.lst (Fs.map encP)), .va (.opq (.ref C)), .no, .no, .no] [(defBody oInit).getD 0 (.Pass ⟨0, 0, 0, 0⟩)] out := fun q hq out o1 o2 => by
    refine sds_if (q := q) (Et.bb (et_w (ew_or (et_c cm_lt (vv 1) ev_int) fun _ => ew_or (et_c cm_gt (vv 1) (e_gint G.most)) fun _ => ew_or1 (et_c cm_gt (e_len T.len (vb 2)) (e_gint G.mostF)))) (by rw [hq, List.length_map])) (fun c => ?_) (fun c => ?_)
    · rw [o1 c]
      exact ⟨_, Sds.low (sds_raise1 rfl (L2N.takes_of rfl rfl rfl rfl) G.err (hr.mono (by decide)) rfl (ev_neg ev_int)), rfl⟩
    · rw [o2 c]
      exact ⟨_, sds_nil, sds_nil⟩
  by_cases hbad : n < 0 ∨ 9 < n ∨ 36 < Fs.length
  · have e1 : ordErr n Fs = some (-1) := if_pos hbad
    rw [e1] at h4
    subst h4
    refine ⟨.exc CB ["index"] [.int (-1)] none, sa_exit (if1 true ?_ (fun _ => rfl) fun z => nomatch z) rfl, none, rfl⟩
    symm
    simp only [Bool.or_eq_true, decide_eq_true_eq]
    omega
  have n0 : 0 ≤ n := by omega
  have n9 : n ≤ 9 := by omega
  have f36 : Fs.length ≤ 36 := by omega
  have if2 := if1 false (by symm; simp only [Bool.or_eq_false_iff, decide_eq_false_iff_not]; omega) (out := .nx [.ow (.slf a C [] []), .va (.int n), .br (.lst (Fs.map encP)), .va (.opq (.ref C)), .no, .no, .no]) (fun z => nomatch z) fun _ => rfl
  have loop : ∀ {out : Out}, (match badFrom n 0 Fs with | none => out = .nx [.ow (.slf a C [] []), .va (.int n), .br (.lst (Fs.map encP)), .va (.opq (.ref C)), .no, .no, .no] | some j => out = .exc CB ["index"] [.int (j : Int)] none) →
      Sds (NdefX.ncx (L2N.CX Pr w) Pr w K mg base NO ⟨"__init__", "Orders.__init__", defArgs oInit, defBody oInit, defScope oInit, [("__class__", cc)], cda⟩ fO A outer s H E) (wx E) H0 Oc [.ow (.slf a C [] []), .va (.int n), .br (.lst (Fs.map encP)), .va (.opq (.ref C)), .no, .no, .no] [(defBody oInit).getD 1 (.Pass ⟨0, 0, 0, 0⟩)] out := fun {out} ho => by
    refine d_for (enumF 0 Fs) (fun p => .tup [.int (p.1 : Int), encP p.2]) (stepO CB n) () (fun _ => [.ow (.slf a C [] []), .va (.int n), .br (.lst (Fs.map encP)), .va (.opq (.ref C)), .no, .no, .no]) (passes_of rfl) rfl (i_enum encP _ T.enum (vr 2)) Sub.refl ?_ ?_
    · intro st p pre post hx hs
      have test : ∀ {Γ : List Sl}, Γ[1]? = some (.va (.int n)) → Γ[5]? = some (.va (.int p.2.1)) → Γ[6]? = some (.va (.int p.2.2)) → True := fun _ _ _ => trivial
      cases e : badF n p.2 with
      | false =>
        refine ⟨_, .nx [.ow (.slf a C [] []), .va (.int n), .br (.lst (Fs.map encP)), .va (.opq (.ref C)), .va (.int (p.1 : Int)), .va (.int p.2.1), .va (.int p.2.2)], t_nest 4 5 6 rfl ndO, sds_if (q := false) (Et.bb (et_w (ew_or (et_c cm_lt (e_min T.min rfl (vv 5) (vv 6)) ev_int) fun _ => ew_or (et_c cm_ge (e_max T.max rfl (vv 5) (vv 6)) (vv 1)) fun _ => ew_or1 (et_c cm_eqI (vv 5) (vv 6)))) e) (fun z => nomatch z) (fun _ => ⟨_, sds_nil, sds_nil⟩), ?_⟩
        rw [show stepO CB n st p = .ok () from if_neg (by rw [e]; decide)]
        exact .inl ⟨_, rfl, .eq (.eq (.eq (.eq (.no (.no (.no .nil))))))⟩
      | true =>
        refine ⟨_, .exc CB ["index"] [.int (p.1 : Int)] none, t_nest 4 5 6 rfl ndO, sds_if (q := true) (Et.bb (et_w (ew_or (et_c cm_lt (e_min T.min rfl (vv 5) (vv 6)) ev_int) fun _ => ew_or (et_c cm_ge (e_max T.max rfl (vv 5) (vv 6)) (vv 1)) fun _ => ew_or1 (et_c cm_eqI (vv 5) (vv 6)))) e) (fun _ => ⟨_, Sds.low (sds_raise1 rfl (L2N.takes_of rfl rfl rfl rfl) G.err (hr.mono (by decide)) rfl (vv 4)), rfl⟩) (fun z => nomatch z), ?_⟩
        rw [show stepO CB n st p = .error _ from if_pos e]
        exact ⟨rfl, .inr (.inl ⟨_, _, _, _, rfl⟩)⟩
    · rw [runO]
      cases hB : badFrom n 0 Fs with
      | none =>
        rw [hB] at ho
        subst ho
        exact sds_nil
      | some j =>
        rw [hB] at ho
        exact ho
  cases hB : badFrom n 0 Fs with
  | some j =>
    have e1 : ordErr n Fs = some (j : Int) := by unfold ordErr; rw [if_neg hbad, hB]; rfl
    rw [e1] at h4
    subst h4
    exact ⟨.exc CB ["index"] [.int (j : Int)] none, sa_cons if2 (sa_exit (loop (by rw [hB])) rfl), none, rfl⟩
  | none =>
    have e1 : ordErr n Fs = none := by unfold ordErr; rw [if_neg hbad, hB]; rfl
    rw [e1] at h4
    subst h4
    have ok := badFrom_none hB
    have en : ((n.toNat : Nat) : Int) = n := Int.toNat_of_nonneg n0
    have eF : (Fs.map encP) = ((Fs.map toL).map encT) := by rw [List.map_map]; rfl
    refine ⟨.nx [.ow (.slf a C ["size", "count", "facts"] [.int n, .int n, .lst ((sortF Fs).map encP)]), .va (.int n), .br (.lst (Fs.map encP)), .va (.opq (.ref C)), .no, .no, .no], ?_, ["size", "count", "facts"], [.int n, .int n, .lst ((sortF Fs).map encP)], rfl, ?_⟩
    · refine sa_cons if2 (sa_cons (loop (by rw [hB])) ?_)
      refine sa_super (P2 := pWorld C) (ns := ["size"]) (es2 := [.int n]) (ds := [.int n]) 0 3 G.at_ G.su FW (hr.mono (by decide)) bW rfl rfl rfl (ea_cons (vv 1) ea_nil) rfl ⟨n, rfl, rfl⟩ ?_ rfl rfl
      refine sa_of (d_fld 0 R.cl R.noC (vv 1) ?_)
      refine d_fld 0 R.cl R.noF (d1 := .lst ((sortF Fs).map encP)) ?_ sds_nil
      refine Ev.fz (Ev.aso (d := .lst ((sortSet (Fs.map toL)).map encT)) ?_ (by rw [sortF_enc]))
      refine e_sortSet (L := Fs.map toL) 2 10 (by decide) T.sorted T.set rfl (hu64 hr) (Ev.as_b (vb 2) (by rw [eF])) (by rw [List.length_map]; omega) fun x hx => ?_
      obtain ⟨q, hq, rfl⟩ := List.mem_map.mp hx
      have b := ok q hq
      rw [← en] at b
      have b' := badF_ok b
      refine ⟨rfl, fun m hm => ?_⟩
      unfold toL at hm
      simp at hm
      rcases hm with rfl | rfl <;> omega
    · rw [show ordD C n.toNat (sortF Fs) = .obj C ["size", "count", "facts"] [.int n, .int n, .lst ((sortF Fs).map encP)] by unfold ordD; rw [en]]
end
end K91

namespace K91
open PySem PySem.Spec PyProof.Rows L2 Y
/-! ### the law's own -/
section
variable {Pr : Program} {w : World} {K : PySem.W.Frag} {mg : Str → Option Value} {base : Heap}
def pIsOrd : Pm := fun Γ o => ∃ (s2 : Sl) (n : Nat) (F : List (Int × Int)) (s : List Int), Γ = [.va (encT s), .va (.int n), s2] ∧ s2.held = some (.lst (F.map encP)) ∧ OkF n F ∧ F.length ≤ 1000 ∧ n ≤ 500 ∧ o = .ret (.va (.bl (isAns n F s)))
theorem scIsOrd : FnScope ["setting", "count", "facts", "spots", "k", "fact"] ["setting", "count", "facts"] (defScope sIsOrder) := ⟨rfl, rfl, rfl, by decide +kernel, rfl, by decide +kernel, by decide +kernel⟩
theorem ok_isOrd {f : Addr} {fd : FuncData} (F : Fun K "_law_is_order" "_law_is_order" sIsOrder f fd) (T : Bi mg) (G : FnG Pr w K mg base "_law_spots" 1 ["order"] pSpots) : FnOk Pr w K mg base (L2N.CX Pr w) 2 f fd ["setting", "count", "facts"] (mkSp K pIsOrd) := by
  refine fn_sds F scIsOrd (fun Γ o ⟨_, _, _, _, h2, _⟩ => by rw [h2]; rfl) fun cdv A outer s H E hr H0 Oc Γ o ⟨s2, n, Fs, st, h3, h1, hF, hFl, hn, h4⟩ => ?_
  subst h3 h4
  refine ⟨.ret (.va (.bl (isAns n Fs st))), ?_, rfl⟩
  have hh : s2 = .va (.lst (Fs.map encP)) ∨ s2 = .br (.lst (Fs.map encP)) := by
    cases s2 <;> first | (cases h1; done) | (cases h1; exact .inl rfl) | (cases h1; exact .inr rfl)
  refine d_ifx (et_c (c_ne (f := fun ns : List Int => D.lst (ns.map .int)) (hu64 hr) eqLI 1 okLI (by decide) (sortI st) (idV n)) (e_sortI T.sorted (e_list T.list (vb 0)).r).r (Ev.r (Ev.aso (d' := .lst ((idV n).map .int)) (e_lc (own := [("k", 4)]) (List.range n) (fun k : Nat => .int k) (fun k : Nat => .int k) (fun k => [.va (encT st), .va (.int n), s2.arg, .no, .va (.int k), .no]) rfl scIsOrd.nd (blkOk_by (by rfl)) (i_rng T.range (vv 1) (by omega)) (by rw [List.length_range]; omega)
    (fun x hx _ _ _ _ _ _ _ => tw_name 4 scIsOrd.nd) (fun k _ => ⟨stab_arg (G := [.va (encT st), .va (.int n), s2, .no, .va (.int k), .no]), .eq (.eq (.eq (.eq (.no (.eq .nil)))))⟩) (fun x hx _ _ _ _ _ _ _ => vv 4)) (by unfold idV; rw [List.map_map]; rfl)))) rfl (fun c => d_ret ev_bl ?_) (fun c => ?_)
  · have : decide (sortI st = idV n) = false := by simpa using c
    unfold isAns
    rw [this]
    rfl
  · have hs : sortI st = idV n := by simpa using c
    obtain ⟨hl, hb⟩ := ans_pl hs
    have lu := spotsV_len st
    refine d_set 3 scIsOrd.nd (ev_call G hr (ea_cons (vv 0) ea_nil) ⟨_, st, rfl, rfl, ans_Pl hs, by omega, rfl⟩) ?_
    have it : ∀ {X : Cx} {H0 : Hp} {Oc : List Addr} {Γ : List Sl} {tg e : Expr} {s' : Sl}, Ev X H0 Oc Γ e s' → s'.held = some (.lst (Fs.map encP)) → Ei X H0 Oc Γ tg e (Fs.map encP) := fun h1 h2 => ei_lst h1 h2
    refine d_ret (e_allL (holds st) T.all rfl (e_lc (own := [("fact", 5)]) Fs encP (fun p => .bl (holds st p)) (fun p => [.va (encT st), .va (.int n), s2.arg, .br (.lst ((spotsV st).map .int)), .no, .va (encP p)]) rfl scIsOrd.nd (blkOk_by (by rfl)) ?_ (by omega)
      (fun x hx _ _ _ _ _ _ _ => tw_name 5 scIsOrd.nd) (fun p _ => ⟨stab_arg (G := [.va (encT st), .va (.int n), s2, .br (.lst []), .no, .va (encP p)]), .eq (.eq (.eq (.eq (.eq (.no .nil)))))⟩) ?_)) ?_
    · rcases hh with rfl | rfl
      · exact ei_lst (vv 2) rfl
      · exact ei_lst (vr 2) rfl
    · intro p hp _ _ _ _ _ _ _
      obtain ⟨b1, b2⟩ := hF p hp
      have g1 : L2.atI ((spotsV st).map D.int) p.1 = some (.int ((spotsV st).getD p.1.toNat 0)) := by
        have e : p.1 = (p.1.toNat : Int) := by omega
        rw [e, Int.toNat_natCast]
        exact atI_map (getD_at (by omega))
      have g2 : L2.atI ((spotsV st).map D.int) p.2 = some (.int ((spotsV st).getD p.2.toNat 0)) := by
        have e : p.2 = (p.2.toNat : Int) := by omega
        rw [e, Int.toNat_natCast]
        exact atI_map (getD_at (by omega))
      exact ev_c cm_lt (ev_ixL (vb 3) (ev_ixT (d := .int p.1) (vb 5) ev_int (L2.atI_nat (j := 0) rfl)) g1) (ev_ixL (vb 3) (ev_ixT (d := .int p.2) (vb 5) ev_int (L2.atI_nat (j := 1) rfl)) g2)
    · unfold isAns
      rw [decide_eq_true hs]
      rfl
def chgL (n : Nat) (F : List (Int × Int)) (a b : List Int) : Bool := isAns n F a && isAns n F b && (List.range (n - 1)).any fun k => decide (swapV a k (k + 1) = b)
def pChgL : Pm := fun Γ o => ∃ (s2 : Sl) (n : Nat) (F : List (Int × Int)) (a b : List Int), Γ = [.va (encT a), .va (encT b), .va (.int n), s2] ∧ s2 = .br (.lst (F.map encP)) ∧ OkF n F ∧ F.length ≤ 1000 ∧ n ≤ 500 ∧ o = .ret (.va (.bl (chgL n F a b)))
theorem scChgL : FnScope ["first", "second", "count", "facts", "k"] ["first", "second", "count", "facts"] (defScope sIsChange) := ⟨rfl, rfl, rfl, by decide +kernel, rfl, by decide +kernel, by decide +kernel⟩
theorem ok_chgL {f : Addr} {fd : FuncData} (F : Fun K "_law_is_change" "_law_is_change" sIsChange f fd) (T : Bi mg) (G : FnG Pr w K mg base "_law_is_order" 2 ["setting", "count", "facts"] pIsOrd) (GS : FnG Pr w K mg base "_law_swapped" 1 ["order", "k", "j"] pSwap) : FnOk Pr w K mg base (L2N.CX Pr w) 3 f fd ["first", "second", "count", "facts"] (mkSp K pChgL) := by
  refine fn_sds F scChgL (fun Γ o ⟨_, _, _, _, _, h2, _⟩ => by rw [h2]; rfl) fun cdv A outer s H E hr H0 Oc Γ o ⟨s2, n, Fs, a, b, h3, h1, hF, hFl, hn, h4⟩ => ?_
  subst h3 h1 h4
  refine ⟨.ret (.va (.bl (chgL n Fs a b))), ?_, rfl⟩
  refine d_ifx (et_w (ew_or (et_not (et_val (ev_call G hr (ea_cons (vv 0) (ea_cons (vv 2) (ea_cons (vr 3) ea_nil))) ⟨_, n, Fs, a, rfl, rfl, hF, hFl, hn, rfl⟩))) fun _ => ew_or1 (et_not (et_val (ev_call G hr (ea_cons (vv 1) (ea_cons (vv 2) (ea_cons (vr 3) ea_nil))) ⟨_, n, Fs, b, rfl, rfl, hF, hFl, hn, rfl⟩))))) rfl (fun c => d_ret ev_bl ?_) (fun c => ?_)
  · unfold chgL
    have : (isAns n Fs a && isAns n Fs b) = false := by
      cases h : isAns n Fs a <;> cases h' : isAns n Fs b <;> simp [h, h'] at c ⊢
    rw [this]
    rfl
  · have e1 : isAns n Fs a = true ∧ isAns n Fs b = true := by
      cases h : isAns n Fs a <;> cases h' : isAns n Fs b <;> simp [h, h'] at c ⊢
    obtain ⟨la, _⟩ := ans_bd e1.1
    refine d_ret (e_anyL (fun k => decide (swapV a k (k + 1) = b)) T.any rfl (e_lc (own := [("k", 4)]) (List.range (n - 1)) (fun k : Nat => .int k) (fun k => .bl (decide (swapV a k (k + 1) = b))) (fun k => [.va (encT a), .va (encT b), .va (.int n), .br (.lst (Fs.map encP)), .va (.int k)]) rfl scChgL.nd (blkOk_by (by rfl)) (i_rngZ (n - 1) T.range (ev_sub (vv 2) ev_int) (by omega) (by omega) (by omega)) (by rw [List.length_range]; omega)
      (fun x hx _ _ _ _ _ _ _ => tw_name 4 scChgL.nd) (fun k _ => ⟨rfl, .eq (.eq (.eq (.eq (.no .nil))))⟩) (fun k hk _ _ _ _ _ _ _ => ?_))) ?_
    · have hk := List.mem_range.mp hk
      exact ev_c (c_eq (hu64 hr) eqT' 1 okT (by decide) (swapV a k (k + 1)) b) (ev_call GS (hr.mono (by decide)) (ea_cons (vv 0) (ea_cons (vv 4) (ea_cons ((ev_add (vv 4) ev_int).ii (j := ((k + 1 : Nat) : Int)) rfl) ea_nil))) ⟨a, k, k + 1, rfl, by omega, by omega, rfl⟩).r (vb 1)
    · unfold chgL
      rw [e1.1, e1.2]
      rfl
def pNextL : Pm := fun Γ o => ∃ (s2 : Sl) (n : Nat) (F : List (Int × Int)) (a : List Int), Γ = [.va (encT a), .va (.int n), s2] ∧ s2 = .br (.lst (F.map encP)) ∧ OkF n F ∧ F.length ≤ 1000 ∧ n ≤ 60 ∧ isAns n F a = true ∧ o = .ret (.ow (.lst ((nextV n F a).map encT)))
theorem scNextL : FnScope ["order", "count", "facts", "found", "k", "other"] ["order", "count", "facts"] (defScope sNext) := ⟨rfl, rfl, rfl, by decide +kernel, rfl, by decide +kernel, by decide +kernel⟩
theorem ok_nextL {f : Addr} {fd : FuncData} (F : Fun K "_law_next" "_law_next" sNext f fd) (T : Bi mg) (G : FnG Pr w K mg base "_law_is_order" 2 ["setting", "count", "facts"] pIsOrd) (GS : FnG Pr w K mg base "_law_swapped" 1 ["order", "k", "j"] pSwap) : FnOk Pr w K mg base (L2N.CX Pr w) 3 f fd ["order", "count", "facts"] (mkSp K pNextL) := by
  refine fn_sds F scNextL (fun Γ o ⟨_, _, _, _, h2, _⟩ => by rw [h2]; rfl) fun cdv A outer s H E hr H0 Oc Γ o ⟨s2, n, Fs, st, h3, h1, hF, hFl, hn, ha, h4⟩ => ?_
  subst h3 h1 h4
  refine ⟨.ret (.ow (.lst ((nextV n Fs st).map encT))), ?_, rfl⟩
  obtain ⟨hl, hb⟩ := ans_bd ha
  refine d_setLc (own := [("k", 4)]) 3 (List.range (n - 1)) (fun k : Nat => .int k) (fun k => encT (swapV st k (k + 1))) (fun k => [.va (encT st), .va (.int n), .br (.lst (Fs.map encP)), .no, .va (.int k), .no]) rfl scNextL.nd (blkOk_by (by rfl)) (i_rngZ (n - 1) T.range (ev_sub (vv 1) ev_int) (by omega) (by omega) (by omega)) (by rw [List.length_range]; omega)
    (fun x hx _ _ _ _ _ _ _ => tw_name 4 scNextL.nd) (fun k _ => ⟨rfl, .eq (.eq (.eq (.eq (.no (.eq .nil)))))⟩) (fun k hk _ _ _ _ _ _ _ => ?_) ?_
  · have hk := List.mem_range.mp hk
    exact ev_call GS (hr.mono (by decide)) (ea_cons (vv 0) (ea_cons (vv 4) (ea_cons ((ev_add (vv 4) ev_int).ii (j := ((k + 1 : Nat) : Int)) rfl) ea_nil))) ⟨st, k, k + 1, rfl, by omega, by omega, rfl⟩
  refine sds_freeze 3 rfl ?_
  have e0 : ((List.range (n - 1)).map fun k => encT (swapV st k (k + 1))) = (((List.range (n - 1)).map fun k => swapV st k (k + 1)).map encT) := by rw [List.map_map]; rfl
  unfold nextV
  rw [e0]
  have lf : ((List.range (n - 1)).map fun k => swapV st k (k + 1)).length = n - 1 := by rw [List.length_map, List.length_range]
  generalize ((List.range (n - 1)).map fun k => swapV st k (k + 1)) = L at lf
  have lff := List.length_filter_le (isAns n Fs) L
  refine d_retO (d := .lst ((sortL (L.filter (isAns n Fs))).map encT)) (e_sortL (max n 1) (max n 1 : Nat) (by omega) T.sorted ?_ (by omega) fun x hx => ?_) rfl
  · refine Ev.r (s := .ow (.lst ((L.filter (isAns n Fs)).map encT))) ?_ rfl
    refine e_lcf (own := [("other", 5)]) L encT (isAns n Fs) encT (fun x => [.va (encT st), .va (.int n), .br (.lst (Fs.map encP)), .va (.lst (L.map encT)), .no, .va (encT x)]) rfl scNextL.nd (blkOk_by (by rfl)) (ei_lst (vv 3) rfl) (by omega) (fun x hx _ _ _ _ _ _ _ => tw_name 5 scNextL.nd) (fun x _ => ⟨rfl, .eq (.eq (.eq (.eq (.eq (.no .nil)))))⟩)
      (fun x hx _ _ _ _ _ _ _ => et_val (ev_call G hr (ea_cons (vv 5) (ea_cons (vv 1) (ea_cons (vr 2) ea_nil))) ⟨_, n, Fs, x, rfl, rfl, hF, hFl, by omega, rfl⟩)) (fun x hx _ _ _ _ _ _ _ _ => vv 5)
  · obtain ⟨m1, m2⟩ := List.mem_filter.mp hx
    obtain ⟨b1, b2⟩ := ans_bd m2
    have n0 : 0 < L.length := List.length_pos_of_mem m1
    have e : max n 1 = n := by omega
    rw [e]
    exact ⟨b1, b2⟩
end
end K91

namespace K91
open PySem PySem.Spec PyProof.Rows L2 Y
section
variable {Pr : Program} {w : World} {K : PySem.W.Frag} {mg : Str → Option Value} {base : Heap}
/-! ### _law_order -/
def stepW (p : List Int × List Int) (d : Int) : List Int × List Int := (p.1.take d.toNat ++ p.1.drop (d.toNat + 1), p.2 ++ [p.1.getD d.toNat 0])
def basesO (n : Nat) : List Int := (List.range n).map fun k : Nat => (n : Int) - k
def orderV (c : Int) (n : Nat) : List Int := ((drawV c (basesO n)).foldl stepW (idV n, [])).2
theorem take_drop_perm : ∀ (l : List Int) (k : Nat), k < l.length → ∀ m : List Int, ((l.take k ++ l.drop (k + 1)) ++ (m ++ [l.getD k 0])).Perm (l ++ m) := by
  intro l k h m
  have e : l = l.take k ++ l.getD k 0 :: l.drop (k + 1) := by
    rw [List.getD_eq_getElem?_getD, List.getElem?_eq_getElem h]
    show l = l.take k ++ l[k] :: l.drop (k + 1)
    rw [← List.drop_eq_getElem_cons h, List.take_append_drop]
  generalize l.getD k 0 = x at *
  generalize l.take k = a at *
  generalize l.drop (k + 1) = b at *
  subst e
  rw [List.append_assoc, List.append_assoc]
  refine List.Perm.append_left a ?_
  rw [← List.append_assoc, List.cons_append]
  exact List.perm_append_comm.trans (by exact List.Perm.refl _)
theorem foldO : ∀ (ds : List Int) (p : List Int × List Int), (∀ (i : Nat) (d : Int), ds[i]? = some d → 0 ≤ d ∧ d + i < p.1.length) → (ds.foldl stepW p).1.length + ds.length = p.1.length ∧ ((ds.foldl stepW p).1 ++ (ds.foldl stepW p).2).Perm (p.1 ++ p.2) ∧ (ds.foldl stepW p).2.length = p.2.length + ds.length
  | [], p, _ => ⟨rfl, .refl _, rfl⟩
  | d :: ds, p, h => by
    have h0 := h 0 d rfl
    have hk : d.toNat < p.1.length := by omega
    have l1 : (stepW p d).1.length + 1 = p.1.length := by
      show (p.1.take d.toNat ++ p.1.drop (d.toNat + 1)).length + 1 = _
      rw [List.length_append, List.length_take, List.length_drop]
      omega
    obtain ⟨a1, a2, a3⟩ := foldO ds (stepW p d) fun i e he => by
      have := h (i + 1) e he
      exact ⟨this.1, by have := this.2; push_cast at this; omega⟩
    refine ⟨by rw [List.foldl_cons, List.length_cons]; omega, ?_, ?_⟩
    · rw [List.foldl_cons]
      exact a2.trans (take_drop_perm p.1 d.toNat hk p.2)
    · rw [List.foldl_cons, a3, List.length_cons]
      show (p.2 ++ [_]).length + ds.length = _
      rw [List.length_append]
      show p.2.length + 1 + ds.length = _
      omega
theorem drawO_len (c : Int) (n : Nat) : (drawV c (basesO n)).length = n := by
  rw [drawV_len]
  unfold basesO
  rw [List.length_map, List.length_range]
theorem drawO_get (c : Int) (n : Nat) (i : Nat) (d : Int) (h : (drawV c (basesO n))[i]? = some d) : 0 ≤ d ∧ d + i < n := by
  have hi : i < n := by
    have := (List.getElem?_eq_some_iff.mp h).1
    rwa [drawO_len] at this
  obtain ⟨v, h1, h2, h3⟩ := drawV_get c (basesO n) i ((n : Int) - i) (by unfold basesO; rw [List.getElem?_map, List.getElem?_range hi]; rfl) (by omega)
  rw [h] at h1
  cases h1
  exact ⟨h2, by omega⟩
theorem idV_len (n : Nat) : (idV n).length = n := by unfold idV; rw [List.length_map, List.length_range]
theorem orderV_perm (c : Int) (n : Nat) : (orderV c n).Perm (idV n) := by
  obtain ⟨a1, a2, a3⟩ := foldO (drawV c (basesO n)) (idV n, []) fun i d h => by
    have := drawO_get c n i d h
    exact ⟨this.1, by show _ < ((idV n).length : Int); rw [idV_len]; exact this.2⟩
  rw [drawO_len] at a1
  have e : ((drawV c (basesO n)).foldl stepW (idV n, [])).1 = [] := by
    apply List.eq_nil_of_length_eq_zero
    have : (idV n, ([] : List Int)).1.length = n := idV_len n
    omega
  rw [e, List.nil_append, List.append_nil] at a2
  exact a2
def pOrderL : Pm := fun Γ o => ∃ (c : Int) (n : Nat), Γ = [.va (.int c), .va (.int n)] ∧ n ≤ 500 ∧ o = .ret (.va (encT (orderV c n)))
theorem scOrder : FnScope ["cell", "count", "left", "k", "order", "digit"] ["cell", "count"] (defScope sOrder) := ⟨rfl, rfl, rfl, by decide +kernel, rfl, by decide +kernel, by decide +kernel⟩
theorem ok_order {f : Addr} {fd : FuncData} (F : Fun K "_law_order" "_law_order" sOrder f fd) (T : Bi mg) (G : FnG Pr w K mg base "_law_draw" 1 ["cell", "bases"] pDraw) : FnOk Pr w K mg base (L2N.CX Pr w) 2 f fd ["cell", "count"] (mkSp K pOrderL) := by
  refine fn_sds F scOrder (fun Γ o ⟨_, _, h2, _⟩ => by rw [h2]; rfl) fun cdv A outer s H E hr H0 Oc Γ o ⟨c, n, h3, hn, h4⟩ => ?_
  subst h3 h4
  refine ⟨.ret (.va (encT (orderV c n))), ?_, rfl⟩
  refine d_setLc (own := [("k", 3)]) 2 (List.range n) (fun k : Nat => .int k) (fun k => .int k) (fun k => [.va (.int c), .va (.int n), .no, .va (.int k), .no, .no]) rfl scOrder.nd (blkOk_by (by rfl)) (i_rng T.range (vv 1) (by omega)) (by rw [List.length_range]; omega)
    (fun x hx _ _ _ _ _ _ _ => tw_name 3 scOrder.nd) (fun k _ => ⟨rfl, .eq (.eq (.eq (.no (.eq (.eq .nil)))))⟩) (fun k hk _ _ _ _ _ _ _ => vv 3) ?_
  refine d_set 4 scOrder.nd (ev_lst ea_nil rfl (by decide)) ?_
  have eb : ((List.range n).map fun k : Nat => D.int ((n : Int) - k)) = (basesO n).map .int := by unfold basesO; rw [List.map_map]; rfl
  have ei : ((List.range n).map fun k : Nat => D.int k) = (idV n).map .int := by unfold idV; rw [List.map_map]; rfl
  refine d_forP (drawV c (basesO n)) .int stepW (idV n, []) (fun p => [.va (.int c), .va (.int n), .ow (.lst (p.1.map .int)), .no, .ow (.lst (p.2.map .int)), .no]) (passes_of rfl) rfl (ei_lst (Ev.fz (ev_call G hr (ea_cons (vv 0) (ea_cons (Ev.aso (d' := .lst ((basesO n).map .int)) ?_ (congrArg D.lst eb)) ea_nil)) ⟨c, basesO n, ?_, ?_, rfl, rfl⟩)) rfl) ?_ ?_ ?_
  · exact e_lc (own := [("k", 3)]) (List.range n) (fun k : Nat => .int k) (fun k => .int ((n : Int) - k)) (fun k => [.va (.int c), .va (.int n), .br (.lst ((List.range n).map fun k : Nat => D.int k)), .va (.int k), .br (.lst []), .no]) rfl scOrder.nd (blkOk_by (by rfl)) (i_rng T.range (vv 1) (by omega)) (by rw [List.length_range]; omega) (fun x hx _ _ _ _ _ _ _ => tw_name 3 scOrder.nd) (fun k _ => ⟨rfl, .eq (.eq (.eq (.no (.eq (.eq .nil)))))⟩) (fun k hk _ _ _ _ _ _ _ => ev_sub (vv 1) (vv 3))
  · unfold basesO
    rw [List.length_map, List.length_range]
    omega
  · intro b hb
    unfold basesO at hb
    obtain ⟨k, hk, rfl⟩ := List.mem_map.mp hb
    have := List.mem_range.mp hk
    omega
  · exact .eq (.eq (.eqc (congrArg (fun z => Sl.ow (D.lst z)) ei) (.eq (.eq (.eq .nil)))))
  · intro p d pre post hx hp
    have hd : (drawV c (basesO n))[pre.length]? = some d := by rw [hx]; simp
    have h2 := drawO_get c n _ d hd
    obtain ⟨a1, a2, a3⟩ := foldO pre (idV n, []) fun i e he => by
      have h3 : (drawV c (basesO n))[i]? = some e := by
        rw [hx, List.getElem?_append_left (List.getElem?_eq_some_iff.mp he).1]
        exact he
      have := drawO_get c n i e h3
      exact ⟨this.1, by show _ < ((idV n).length : Int); rw [idV_len]; exact this.2⟩
    rw [← hp] at a1 a3
    have e5 : (idV n, ([] : List Int)).1.length = n := idV_len n
    have hk : d.toNat < p.1.length := by omega
    obtain ⟨D0, rfl⟩ := Int.eq_ofNat_of_zero_le h2.1
    have c1 : Y.cutD (p.1.map D.int) none (some (D0 : Int)) = (p.1.take D0).map .int := by rw [cutD_map, cutD_upto]
    have c2 : Y.cutD (p.1.map D.int) (some ((D0 : Int) + 1)) none = (p.1.drop (D0 + 1)).map .int := by rw [show ((D0 : Int) + 1) = ((D0 + 1 : Nat) : Int) from rfl, cutD_map, cutD_from]
    have hk' : D0 < p.1.length := hk
    have hpl : pre.length ≤ n := by
      have z := congrArg List.length hx
      rw [drawO_len, List.length_append, List.length_cons] at z
      omega
    refine ⟨_, _, t_name 5 scOrder.nd, d_app 4 (ev_ixL (d := .int (p.1.getD D0 0)) (vo 2) (vv 5) (atI_map (getD_at hk'))) ?_ (d_set 2 scOrder.nd (Ev.aso (d' := .lst ((stepW p D0).1.map .int)) (ev_catL (ev_slL (vb 2) eo_no (eo_at (vv 5))).r (ev_slL (vb 2) (eo_at (ev_add (vv 5) ev_int)) eo_no).r ?_) ?_) sds_nil), ?_⟩
    · rw [List.length_map, a3]
      show 0 + _ ≤ _
      omega
    · rw [c1, c2, List.length_map, List.length_map, List.length_take, List.length_drop]
      omega
    · rw [c1, c2, ← List.map_append]
      rfl
    · exact .eq (.eq (.eq (.eq (.eqc (lst1 _ _ _) (.no .nil)))))
  · exact d_ret (Ev.as (e_tupL T.tuple (vb 4)) rfl) rfl
end
end K91

namespace K91
open PySem PySem.Spec PyProof.Rows L2 Y
section
variable {Pr : Program} {w : World} {K : PySem.W.Frag} {mg : Str → Option Value} {base : Heap}
/-! ### _law_facts -/
def basesF (n many : Nat) : List Int := (List.replicate many [(n : Int), (n : Int) - 1]).flatten
def factAt (n : Nat) (sp dr : List Int) (ag : Bool) (k : Nat) : Int × Int :=
  if ag && decide (sp.getD ((dr.getD (2 * k) 0 + 1 + dr.getD (2 * k + 1) 0) % (n : Int)).toNat 0 < sp.getD (dr.getD (2 * k) 0).toNat 0) then ((dr.getD (2 * k) 0 + 1 + dr.getD (2 * k + 1) 0) % (n : Int), dr.getD (2 * k) 0) else (dr.getD (2 * k) 0, (dr.getD (2 * k) 0 + 1 + dr.getD (2 * k + 1) 0) % (n : Int))
def factsV (c : Int) (many : Nat) (o : List Int) (ag : Bool) : List (Int × Int) := if o.length < 2 then [] else (List.range many).map (factAt o.length (spotsV o) (drawV c (basesF o.length many)) ag)
theorem rep2_ints (n : Nat) (v u : Int) : (List.replicate n [D.int v, D.int u]).flatten = ((List.replicate n [v, u]).flatten).map .int := by
  induction n with
  | zero => rfl
  | succ n ih => rw [List.replicate_succ, List.flatten_cons, ih, List.replicate_succ]; rfl
theorem rep2_len (n : Nat) (v u : Int) : ((List.replicate n [v, u]).flatten).length = 2 * n := by
  induction n with
  | zero => rfl
  | succ n ih => rw [List.replicate_succ, List.flatten_cons, List.length_append, ih]; show 2 + 2 * n = _; omega
theorem rep2_get (v u : Int) : ∀ (n k : Nat), k < n → ((List.replicate n [v, u]).flatten)[2 * k]? = some v ∧ ((List.replicate n [v, u]).flatten)[2 * k + 1]? = some u
  | 0, k, h => absurd h (Nat.not_lt_zero _)
  | n + 1, 0, _ => ⟨rfl, rfl⟩
  | n + 1, k + 1, h => by
    have := rep2_get v u n k (by omega)
    rw [List.replicate_succ, List.flatten_cons]
    exact this
theorem drawF_get (c : Int) {n many k : Nat} (hn : 2 ≤ n) (hk : k < many) : (drawV c (basesF n many)).length = 2 * many ∧ (0 ≤ (drawV c (basesF n many)).getD (2 * k) 0 ∧ (drawV c (basesF n many)).getD (2 * k) 0 < n) ∧ 0 ≤ (drawV c (basesF n many)).getD (2 * k + 1) 0 ∧ (drawV c (basesF n many)).getD (2 * k + 1) 0 < (n : Int) - 1 := by
  obtain ⟨g1, g2⟩ := rep2_get (n : Int) ((n : Int) - 1) many k hk
  obtain ⟨v, e1, v1, v2⟩ := drawV_get c (basesF n many) (2 * k) _ g1 (by omega)
  obtain ⟨u, e2, u1, u2⟩ := drawV_get c (basesF n many) (2 * k + 1) _ g2 (by omega)
  rw [List.getD_eq_getElem?_getD, List.getD_eq_getElem?_getD, e1, e2]
  exact ⟨by rw [drawV_len]; exact rep2_len _ _ _, ⟨v1, v2⟩, u1, u2⟩
theorem factAt_ok (c : Int) {n many k : Nat} (sp : List Int) (ag : Bool) (hn : 2 ≤ n) (hk : k < many) : ((0 ≤ (factAt n sp (drawV c (basesF n many)) ag k).1 ∧ (factAt n sp (drawV c (basesF n many)) ag k).1 < (n : Int)) ∧ 0 ≤ (factAt n sp (drawV c (basesF n many)) ag k).2 ∧ (factAt n sp (drawV c (basesF n many)) ag k).2 < (n : Int)) ∧ (factAt n sp (drawV c (basesF n many)) ag k).1 ≠ (factAt n sp (drawV c (basesF n many)) ag k).2 := by
  obtain ⟨_, ⟨a1, a2⟩, b1, b2⟩ := drawF_get c hn hk
  unfold factAt
  generalize (drawV c (basesF n many)).getD (2 * k) 0 = x at *
  generalize (drawV c (basesF n many)).getD (2 * k + 1) 0 = y at *
  have m1 := Int.emod_nonneg (x + 1 + y) (b := (n : Int)) (by omega)
  have m2 := Int.emod_lt_of_pos (x + 1 + y) (b := (n : Int)) (by omega)
  have m3 : (x + 1 + y) % (n : Int) ≠ x := by
    by_cases h : x + 1 + y < n
    · rw [Int.emod_eq_of_lt (by omega) h]
      omega
    · rw [← Int.sub_emod_right, Int.emod_eq_of_lt (by omega) (by omega)]
      omega
  split
  · exact ⟨⟨⟨m1, m2⟩, a1, a2⟩, m3⟩
  · exact ⟨⟨⟨a1, a2⟩, m1, m2⟩, fun h => m3 h.symm⟩
theorem factsV_ok (c : Int) (many : Nat) (o : List Int) (ag : Bool) : ∀ p ∈ factsV c many o ag, ((0 ≤ p.1 ∧ p.1 < (o.length : Int)) ∧ 0 ≤ p.2 ∧ p.2 < (o.length : Int)) ∧ p.1 ≠ p.2 := by
  intro p hp
  unfold factsV at hp
  split at hp
  · cases hp
  · obtain ⟨k, hk, rfl⟩ := List.mem_map.mp hp
    exact factAt_ok c _ _ (by omega) (List.mem_range.mp hk)
theorem fold_app {α β : Type} (g : α → β) : ∀ (xs : List α) (acc : List β), xs.foldl (fun a x => a ++ [g x]) acc = acc ++ xs.map g
  | [], acc => (List.append_nil _).symm
  | x :: xs, acc => by rw [List.foldl_cons, fold_app g xs, List.map_cons, List.append_assoc]; rfl
def pFacts : Pm := fun Γ o => ∃ (c : Int) (many : Nat) (s : List Int) (ag : Bool), Γ = [.va (.int c), .va (.int many), .va (encT s), .va (.bl ag)] ∧ Pl s ∧ s.length ≤ 500 ∧ many ≤ 1000 ∧ o = .ret (.ow (.lst ((factsV c many s ag).map encP)))
theorem scFacts : FnScope ["cell", "many", "order", "agree", "count", "drawn", "spots", "facts", "k", "one", "other"] ["cell", "many", "order", "agree"] (defScope sFacts) := ⟨rfl, rfl, rfl, by decide +kernel, rfl, by decide +kernel, by decide +kernel⟩
theorem ok_facts {f : Addr} {fd : FuncData} (F : Fun K "_law_facts" "_law_facts" sFacts f fd) (T : Bi mg) (G : FnG Pr w K mg base "_law_draw" 1 ["cell", "bases"] pDraw) (GS : FnG Pr w K mg base "_law_spots" 1 ["order"] pSpots) : FnOk Pr w K mg base (L2N.CX Pr w) 2 f fd ["cell", "many", "order", "agree"] (mkSp K pFacts) := by
  refine fn_sds F scFacts (fun Γ o ⟨_, _, _, _, h2, _⟩ => by rw [h2]; rfl) fun cdv A outer s H E hr H0 Oc Γ o ⟨c, many, st, ag, h3, hp, hl, hm, h4⟩ => ?_
  subst h3 h4
  refine ⟨.ret (.ow (.lst ((factsV c many st ag).map encP))), ?_, rfl⟩
  refine d_set 4 scFacts.nd ((e_len T.len (vb 2)).ii (j := (st.length : Int)) (by rw [List.length_map])) ?_
  refine d_ifx (et_c cm_lt (vv 4) ev_int) rfl (fun h => ?_) (fun h => ?_)
  · have h := of_decide_eq_true h
    refine d_retO (ev_lst ea_nil rfl (by decide)) ?_
    unfold factsV
    rw [if_pos (by omega)]
    rfl
  have h := of_decide_eq_false h
  have hn : 2 ≤ st.length := by omega
  refine d_set 5 scFacts.nd (ev_call G hr (ea_cons (vv 0) (ea_cons (Ev.aso (d' := .lst ((basesF st.length many).map .int)) (ev_repL (ev_lst (ea_cons (vv 4) (ea_cons (ev_sub (vv 4) ev_int) ea_nil)) rfl (by show 2 ≤ _; decide)).r (vv 1) ?_ ?_ ?_) ?_) ea_nil)) ⟨c, basesF st.length many, ?_, ?_, rfl, rfl⟩) ?_
  · omega
  · omega
  · show 2 * _ ≤ _
    rw [Int.toNat_natCast]
    omega
  · rw [Int.toNat_natCast]
    exact congrArg D.lst (rep2_ints _ _ _)
  · unfold basesF
    rw [rep2_len]
    omega
  · intro b hb
    unfold basesF at hb
    obtain ⟨l, hl1, hl2⟩ := List.mem_flatten.mp hb
    rw [List.eq_of_mem_replicate hl1] at hl2
    rcases List.mem_cons.mp hl2 with rfl | hl2
    · omega
    · have := List.mem_singleton.mp hl2
      omega
  refine d_set 6 scFacts.nd (ev_call GS hr (ea_cons (vv 2) ea_nil) ⟨_, st, rfl, rfl, hp, by omega, rfl⟩) ?_
  refine d_set 7 scFacts.nd (ev_lst ea_nil rfl (by decide)) ?_
  have lsp : (spotsV st).length = st.length := spotsV_len st
  generalize hsp : spotsV st = sp at lsp
  generalize hdr : drawV c (basesF st.length many) = dr
  refine d_forP (List.range many) (fun k : Nat => .int k) (fun acc k => acc ++ [factAt st.length sp dr ag k]) [] (fun acc => [.va (.int c), .va (.int many), .va (encT st), .va (.bl ag), .va (.int st.length), .ow (.lst (dr.map .int)), .ow (.lst (sp.map .int)), .ow (.lst (acc.map encP)), .no, .no, .no]) (passes_of rfl) rfl (i_rng T.range (vv 1) (by omega)) (.eq (.eq (.eq (.eq (.eq (.eq (.eq (.eq (.eq (.eq (.eq .nil))))))))))) ?_ ?_
  · intro acc k pre post hx hacc
    have hk := rng_lt hx
    have la : acc.length ≤ 1000000 := by
      rw [hacc, fold_app]
      have lp := congrArg List.length hx
      rw [List.length_range, List.length_append, List.length_cons] at lp
      rw [List.nil_append, List.length_map]
      omega
    obtain ⟨ld, a, b⟩ := drawF_get c (n := st.length) hn hk
    rw [hdr] at ld a b
    have atd : ∀ j : Nat, j < 2 * many → L2.atI (dr.map D.int) (j : Int) = some (.int (dr.getD j 0)) := fun j h => atI_map (getD_at (by omega))
    have ats : ∀ v : Int, 0 ≤ v → v < (st.length : Int) → L2.atI (sp.map D.int) v = some (.int (sp.getD v.toNat 0)) := fun v h1 h2 => by
      obtain ⟨j, rfl⟩ := Int.eq_ofNat_of_zero_le h1
      exact atI_map (getD_at (by omega))
    have eF : factAt st.length sp dr ag k = if ag && decide (sp.getD ((dr.getD (2 * k) 0 + 1 + dr.getD (2 * k + 1) 0) % (st.length : Int)).toNat 0 < sp.getD (dr.getD (2 * k) 0).toNat 0) then ((dr.getD (2 * k) 0 + 1 + dr.getD (2 * k + 1) 0) % (st.length : Int), dr.getD (2 * k) 0) else (dr.getD (2 * k) 0, (dr.getD (2 * k) 0 + 1 + dr.getD (2 * k + 1) 0) % (st.length : Int)) := rfl
    have d1 := atd (2 * k) (by omega)
    have d2 := atd (2 * k + 1) (by omega)
    rw [eF]
    generalize dr.getD (2 * k) 0 = x at *
    generalize dr.getD (2 * k + 1) 0 = y at *
    have m1 := Int.emod_nonneg (x + 1 + y) (b := (st.length : Int)) (by omega)
    have m2 := Int.emod_lt_of_pos (x + 1 + y) (b := (st.length : Int)) (by omega)
    have d3 := ats x a.1 a.2
    have d4 := ats _ m1 m2
    have e2k : ((2 * k : Nat) : Int) = 2 * (k : Int) := by omega
    have e2k1 : ((2 * k + 1 : Nat) : Int) = 2 * (k : Int) + 1 := by omega
    rw [e2k] at d1
    rw [e2k1] at d2
    refine ⟨_, [.va (.int c), .va (.int many), .va (encT st), .va (.bl ag), .va (.int st.length), .ow (.lst (dr.map .int)), .ow (.lst (sp.map .int)), .ow (.lst ((acc ++ [if ag && decide (sp.getD ((x + 1 + y) % (st.length : Int)).toNat 0 < sp.getD x.toNat 0) then ((x + 1 + y) % (st.length : Int), x) else (x, (x + 1 + y) % (st.length : Int))]).map encP)), .va (.int k), .va (.int x), .va (.int ((x + 1 + y) % (st.length : Int)))], t_name 8 scFacts.nd, ?_, .eq (.eq (.eq (.eq (.eq (.eq (.eq (.eq (.no (.no (.no .nil))))))))))⟩
    refine d_set 9 scFacts.nd (ev_ixL (d := .int x) (vo 5) (ev_mul ev_int (vv 8) (.inl ⟨by omega, by omega⟩)) d1) ?_
    refine d_set 10 scFacts.nd (ev_mod (ev_add (ev_add (vv 9) ev_int) (ev_ixL (d := .int y) (vo 5) (ev_add (ev_mul ev_int (vv 8) (.inl ⟨by omega, by omega⟩)) ev_int) d2)) (vv 4) (by omega)) ?_
    refine sds_ifn _ (et_w (ew_and (et_val (vv 3)) fun _ => ew_and1 (et_c cm_gt (ev_ixL (vo 6) (vv 9) d3) (ev_ixL (vo 6) (vv 10) d4)))) (fun c => ?_) (fun c => ?_) sds_nil
    · rw [c]
      refine d_app 7 (ev_tup (ea_cons (vv 10) (ea_cons (vv 9) ea_nil)) rfl (by show 2 ≤ _; decide)) ?_ (sds_nilq ?_)
      · rw [List.length_map]
        exact la
      · rw [List.map_append]
        rfl
    · rw [c]
      refine d_app 7 (ev_tup (ea_cons (vv 9) (ea_cons (vv 10) ea_nil)) rfl (by show 2 ≤ _; decide)) ?_ (sds_nilq ?_)
      · rw [List.length_map]
        exact la
      · rw [List.map_append]
        rfl
  · refine d_retV 7 ?_
    rw [fold_app]
    unfold factsV
    rw [if_neg (by omega), hsp, hdr]
    rfl
end
end K91

namespace K91
open PySem PySem.Spec PyProof.Rows L2 Y
section
variable {Pr : Program} {w : World} {K : PySem.W.Frag} {mg : Str → Option Value} {base : Heap}
/-! ### _law_wrong_fact -/
def wrongF (n c k : Int) : Int × Int := if c = 1 then (k, n) else if c = 2 then (n + k, 0) else if c = 3 then (-1 - k, k) else if c = 4 then (k, -1) else (k, k)
def pWrong : Pm := fun Γ o => ∃ n c k : Int, Γ = [.va (.int n), .va (.int c), .va (.int k)] ∧ o = .ret (.va (encP (wrongF n c k)))
theorem scWrong : FnScope ["count", "choice", "k"] ["count", "choice", "k"] (defScope sWrong) := ⟨rfl, rfl, rfl, by decide +kernel, rfl, by decide +kernel, by decide +kernel⟩
theorem ok_wrong {f : Addr} {fd : FuncData} (F : Fun K "_law_wrong_fact" "_law_wrong_fact" sWrong f fd) : FnOk Pr w K mg base (L2N.CX Pr w) 1 f fd ["count", "choice", "k"] (mkSp K pWrong) := by
  refine fn_sds F scWrong (fun Γ o ⟨_, _, _, h2, _⟩ => by rw [h2]; rfl) fun cdv A outer s H E hr H0 Oc Γ o ⟨n, c, k, h3, h4⟩ => ?_
  subst h3 h4
  refine ⟨.ret (.va (encP (wrongF n c k))), ?_, rfl⟩
  unfold wrongF
  refine d_ifx (et_c cm_eqI (vv 1) ev_int) rfl (fun h => d_ret (ev_tup (ea_cons (vv 2) (ea_cons (vv 0) ea_nil)) rfl (by show 2 ≤ _; decide)) (by rw [if_pos (of_decide_eq_true h)]; rfl)) (fun h => ?_)
  rw [if_neg (of_decide_eq_false h)]
  refine d_ifx (et_c cm_eqI (vv 1) ev_int) rfl (fun h => d_ret (ev_tup (ea_cons (ev_add (vv 0) (vv 2)) (ea_cons ev_int ea_nil)) rfl (by show 2 ≤ _; decide)) (by rw [if_pos (of_decide_eq_true h)]; rfl)) (fun h => ?_)
  rw [if_neg (of_decide_eq_false h)]
  refine d_ifx (et_c cm_eqI (vv 1) ev_int) rfl (fun h => d_ret (ev_tup (ea_cons (ev_sub (ev_neg ev_int) (vv 2)) (ea_cons (vv 2) ea_nil)) rfl (by show 2 ≤ _; decide)) (by rw [if_pos (of_decide_eq_true h)]; rfl)) (fun h => ?_)
  rw [if_neg (of_decide_eq_false h)]
  refine d_ifx (et_c cm_eqI (vv 1) ev_int) rfl (fun h => d_ret (ev_tup (ea_cons (vv 2) (ea_cons (ev_neg ev_int) ea_nil)) rfl (by show 2 ≤ _; decide)) (by rw [if_pos (of_decide_eq_true h)]; rfl)) (fun h => ?_)
  rw [if_neg (of_decide_eq_false h)]
  exact d_ret (ev_tup (ea_cons (vv 2) (ea_cons (vv 2) ea_nil)) rfl (by show 2 ≤ _; decide)) rfl
/-! ### _law_refused -/
structure ErrO (K : PySem.W.Frag) (mg : Str → Option Value) (CS CW CB : Addr) : Prop where
  gS : mg "StepError" = some (.ref CS)
  gW : mg "BadWorld" = some (.ref CW)
  gB : mg "BadWeb" = some (.ref CB)
  vE : mg "ValueError" = none
  xW : XcE K CW
  iW : PySem.W.findIn K (.ref CW) "index" = some none
  wS : PySem.W.kitOne K (.ref CW) (.ref CS) = some true
  wV : PySem.W.kitOne K (.ref CW) (.type "ValueError") = some true
  wB : PySem.W.kitOne K (.ref CW) (.ref CB) = some false
  eW : PySem.W.exmOne K (.ref CW) (.ref CW) = some true
theorem bt_ve : bootBuiltins ("ValueError" : Str) = some (.type "ValueError") := by decide +kernel
def pRefused : Pm := fun Γ o => ∃ (s1 : Sl) (n : Int) (F : List (Int × Int)) (i : Int), Γ = [.va (.int n), s1, .va (.int i)] ∧ One s1 (.lst (F.map encP)) ∧ ordErr n F = some i ∧ F.length ≤ 1000 ∧ o = .ret (.va (.bl true))
theorem scRefused : FnScope ["count", "facts", "index", "e"] ["count", "facts", "index"] (defScope sRefused) := ⟨rfl, rfl, rfl, by decide +kernel, rfl, by decide +kernel, by decide +kernel⟩
theorem ok_refused {f C CS CW CB : Addr} {fd : FuncData} (F : Fun K "_law_refused" "_law_refused" sRefused f fd) (T : Bi mg) (X : ErrO K mg CS CW CB) (M : ClG Pr w K mg base "Orders" C 4 ["self", "count", "facts"] (pOrd C CW)) (GI : FnGH Pr w K mg base "_law_int" 1 ["actual", "expected"] pInt) : FnOk Pr w K mg base (L2N.CX Pr w) 6 f fd ["count", "facts", "index"] (mkSp K pRefused) := by
  refine fn_sds F scRefused (fun Γ o ⟨_, _, _, _, h2, _⟩ => by rw [h2]; rfl) fun cdv A outer s H E hr H0 Oc Γ o ⟨s1, n, Fs, i, h3, h1, he, hl, h4⟩ => ?_
  subst h3 h4
  refine ⟨.ret (.va (.bl true)), ?_, rfl⟩
  refine sds_try (n := 3) (ob := .exc CW ["index"] [.int i] (some [.va (.int n), s1, .va (.int i), .no])) rfl rfl scRefused.nd rfl rfl ⟨rfl, by decide, .inl X.gW⟩ (L2N.takes_of rfl rfl rfl rfl) (fun W' pn xe tk po => ?_) (.inl ⟨X.eW, fun ad oe d pn hz hf => ?_⟩)
  · refine sds_exprX (exx_make (Γe := none) tk M hr (ea_cons (vv 0) (ea_cons (e_list T.list (vb 1 rfl h1)) ea_nil)) ⟨_, n, Fs, rfl, rfl, hl, ?_⟩)
    rw [he]
  · refine ⟨.ret (.va (.bl true)), ?_, rfl⟩
    refine d_ifx (et_w (ew_or (et_not (et_val (e_isE T.isi X.xW hz hf (vv 3) (e_cls X.gS) (.own CS) X.wS))) fun _ => ew_or (et_not (et_val (e_isE T.isi X.xW hz hf (vv 3) (e_ty X.vE bt_ve) (.ty "ValueError") X.wV))) fun _ => ew_or1 (et_val (e_isE T.isi X.xW hz hf (vv 3) (e_cls X.gB) (.own CB) X.wB)))) rfl (by intro c; simp at c) fun _ => ?_
    refine d_ret (ev_callH hz hf GI (L2H.roomH_of (hr.mono (by decide))) (ea_cons (ev_xf X.xW.xf X.iW hz hf (vv 3) rfl) (ea_cons (vv 2) ea_nil)) ⟨i, i, rfl, rfl⟩) (by simp)
end
end K91

namespace K91
open PySem PySem.Spec PyProof.Rows L2 Y
theorem sds_wk {X : Cx} {W : WX} {H0 : Hp} {Oc : List Addr} {Γ Γ2 Γ3 : List Sl} {b : List Stmt} (h : Sds X W H0 Oc Γ b (.nx Γ2)) (hs : Sub Γ2 Γ3) : Sds X W H0 Oc Γ b (.nx Γ3) := fun Δ τ σ H D hl st w k => h Δ τ σ H D hl st w fun σ' H' w' => k σ' H' (w'.sub hs.app)
section
variable {Pr : Program} {w : World} {K : PySem.W.Frag} {mg : Str → Option Value} {base : Heap}
/-! ### _law_settings -/
def set3 (o : List Int) (k : Nat) : List (List Int) := [swapV o k (k + 2), o.take k ++ [o.getD (k + 1) 0] ++ o.drop (k + 1), o.take k ++ [o.getD (k + 1) 0, o.getD (k + 2) 0, o.getD k 0] ++ o.drop (k + 3)]
def set2 (o : List Int) (k : Nat) : List (List Int) := [swapV (swapV o k (k + 1)) (k + 2) (k + 3), swapV o k (k + 3)]
def setE (o : List Int) (t : Int) : List (List Int) := [o ++ [o.getD (t % (o.length : Int)).toNat 0], o.dropLast ++ [(o.length : Int) + t % 3]]
def setsA (o s2 : List Int) : List (List Int) := [o, s2, o ++ [(o.length : Int)], o.drop 1, o.dropLast ++ [-1], []] ++ (List.range (o.length - 1)).map fun k => swapV o k (k + 1)
def setsB (o s2 : List Int) (t : Int) : List (List Int) := if 2 < o.length then setsA o s2 ++ set3 o (t % ((o.length : Int) - 2)).toNat else setsA o s2
def setsC (o s2 : List Int) (t : Int) : List (List Int) := if 3 < o.length then setsB o s2 t ++ set2 o (t % ((o.length : Int) - 3)).toNat else setsB o s2 t
def setsV (o s2 : List Int) (t : Int) : List (List Int) := if 0 < o.length then setsC o s2 t ++ setE o t else setsC o s2 t
theorem setsA_len (o s2 : List Int) : (setsA o s2).length = 6 + (o.length - 1) := by unfold setsA; rw [List.length_append, List.length_map, List.length_range]; rfl
theorem setsB_len (o s2 : List Int) (t : Int) : (setsB o s2 t).length ≤ 9 + o.length := by
  unfold setsB
  split
  · rw [List.length_append, setsA_len]; show _ + 3 ≤ _; omega
  · rw [setsA_len]; omega
theorem setsC_len (o s2 : List Int) (t : Int) : (setsC o s2 t).length ≤ 11 + o.length := by
  have := setsB_len o s2 t
  unfold setsC
  split
  · rw [List.length_append]; show _ + 2 ≤ _; omega
  · omega
theorem setsV_len (o s2 : List Int) (t : Int) : (setsV o s2 t).length ≤ 13 + o.length := by
  have := setsC_len o s2 t
  unfold setsV
  split
  · rw [List.length_append]; show _ + 2 ≤ _; omega
  · omega
def pSets : Pm := fun Γ o => ∃ (a b : List Int) (t : Int), Γ = [.va (encT a), .va (encT b), .va (.int t)] ∧ a.length ≤ 500 ∧ o = .ret (.ow (.lst ((setsV a b t).map encT)))
theorem scSets : FnScope ["order", "second", "at", "count", "found", "k"] ["order", "second", "at"] (defScope sSettings) := ⟨rfl, rfl, rfl, by decide +kernel, rfl, by decide +kernel, by decide +kernel⟩
theorem lst2 (L : List (List Int)) (x y : List Int) : Sl.ow (.lst (L.map encT ++ [encT x] ++ [encT y])) = .ow (.lst ((L ++ [x, y]).map encT)) := by rw [List.map_append]; simp
theorem ok_sets {f : Addr} {fd : FuncData} (F : Fun K "_law_settings" "_law_settings" sSettings f fd) (T : Bi mg) (GS : FnG Pr w K mg base "_law_swapped" 1 ["order", "k", "j"] pSwap) : FnOk Pr w K mg base (L2N.CX Pr w) 2 f fd ["order", "second", "at"] (mkSp K pSets) := by
  refine fn_sds F scSets (fun Γ o ⟨_, _, _, h2, _⟩ => by rw [h2]; rfl) fun cdv A outer s H E hr H0 Oc Γ o ⟨a, b, t, h3, hl, h4⟩ => ?_
  subst h3 h4
  refine ⟨.ret (.ow (.lst ((setsV a b t).map encT))), ?_, rfl⟩
  have tk : ∀ j : Nat, Y.cutD (a.map D.int) none (some (j : Int)) = (a.take j).map .int := fun j => by rw [cutD_map, cutD_upto]
  have dr : ∀ j : Nat, Y.cutD (a.map D.int) (some (j : Int)) none = (a.drop j).map .int := fun j => by rw [cutD_map, cutD_from]
  have bl : Y.cutD (a.map D.int) none (some (-1)) = (a.dropLast).map .int := by rw [cutD_map, cutD_butLast]
  have at_ : ∀ j : Nat, j < a.length → L2.atI (a.map D.int) (j : Int) = some (.int (a.getD j 0)) := fun j h => atI_map (getD_at h)
  refine d_set 3 scSets.nd ((e_len T.len (vb 0)).ii (j := (a.length : Int)) (by rw [List.length_map])) ?_
  refine d_set 4 scSets.nd (s := .ow (.lst (([a, b, a ++ [(a.length : Int)], a.drop 1, a.dropLast ++ [-1], []] : List (List Int)).map encT))) (ev_lst (ea_cons (vv 0) (ea_cons (vv 1) (ea_cons (Ev.as (d' := encT (a ++ [(a.length : Int)])) (ev_catT (vv 0) (ev_tup (ea_cons (vv 3) ea_nil) rfl (by show 1 ≤ _; decide)) ?_) ?_) (ea_cons (Ev.as (d' := encT (a.drop 1)) (ev_slT (vv 0) (eo_at ev_int) eo_no) (congrArg D.tup (dr 1))) (ea_cons (Ev.as (d' := encT (a.dropLast ++ [-1])) (ev_catT (ev_slT (vv 0) eo_no (eo_at (ev_neg ev_int))) (ev_tup (ea_cons (ev_neg ev_int) ea_nil) rfl (by show 1 ≤ _; decide)) ?_) ?_) (ea_cons (ev_tup ea_nil rfl (by show 0 ≤ _; decide)) ea_nil)))))) rfl (by show 6 ≤ _; decide)) ?_
  · rw [List.length_map]; show _ + 1 ≤ _; omega
  · unfold encT; rw [List.map_append]; rfl
  · rw [bl, List.length_map, List.length_dropLast]; show _ + 1 ≤ _; omega
  · rw [bl]; unfold encT; rw [List.map_append]; rfl
  refine d_forP (List.range (a.length - 1)) (fun k : Nat => .int k) (fun acc k => acc ++ [swapV a k (k + 1)]) [a, b, a ++ [(a.length : Int)], a.drop 1, a.dropLast ++ [-1], []] (fun acc => [.va (encT a), .va (encT b), .va (.int t), .va (.int a.length), .ow (.lst (acc.map encT)), .no]) (passes_of rfl) rfl (i_rngZ (a.length - 1) T.range (ev_sub (vv 3) ev_int) (by omega) (by omega) (by omega)) (.eq (.eq (.eq (.eq (.eq (.eq .nil)))))) ?_ ?_
  · intro acc k pre post hx hacc
    have hk := rng_lt hx
    have lp := congrArg List.length hx
    rw [List.length_range, List.length_append, List.length_cons] at lp
    refine ⟨_, _, t_name 5 scSets.nd, d_app 4 (ev_call GS hr (ea_cons (vv 0) (ea_cons (vv 5) (ea_cons ((ev_add (vv 5) ev_int).ii (j := ((k + 1 : Nat) : Int)) rfl) ea_nil))) ⟨a, k, k + 1, rfl, by omega, by omega, rfl⟩) ?_ sds_nil, ?_⟩
    · rw [List.length_map, hacc, fold_app, List.length_append, List.length_map]
      show 6 + _ ≤ _
      omega
    · exact .eq (.eq (.eq (.eq (.eqc (lst1 _ _ _) (.no .nil)))))
  rw [fold_app, show ([a, b, a ++ [(a.length : Int)], a.drop 1, a.dropLast ++ [-1], []] : List (List Int)) ++ (List.range (a.length - 1)).map (fun k => swapV a k (k + 1)) = setsA a b from rfl]
  refine sds_ifn [.va (encT a), .va (encT b), .va (.int t), .va (.int a.length), .ow (.lst ((setsB a b t).map encT)), .no] (et_c cm_gt (vv 3) ev_int) (fun c => ?_) (fun c => ?_) ?_
  rotate_left
  · have c := of_decide_eq_false c
    unfold setsB
    rw [if_neg (by omega)]
    exact sds_nil
  rotate_left
  · have c := of_decide_eq_true c
    have c' : 2 < a.length := by omega
    unfold setsB
    rw [if_pos c']
    have m1 := Int.emod_nonneg t (b := (a.length : Int) - 2) (by omega)
    have m2 := Int.emod_lt_of_pos t (b := (a.length : Int) - 2) (by omega)
    obtain ⟨k, hk⟩ := Int.eq_ofNat_of_zero_le m1
    have sl := setsA_len a b
    refine d_set 5 scSets.nd ((ev_mod (vv 2) (ev_sub (vv 3) ev_int) (by omega)).ii hk) ?_
    rw [hk, Int.toNat_natCast]
    refine d_app 4 (ev_call GS hr (ea_cons (vv 0) (ea_cons (vv 5) (ea_cons ((ev_add (vv 5) ev_int).ii (j := ((k + 2 : Nat) : Int)) rfl) ea_nil))) ⟨a, k, k + 2, rfl, by omega, by omega, rfl⟩) ?_ ?_
    · rw [List.length_map]; omega
    refine d_app 4 (Ev.as (d' := encT (a.take k ++ [a.getD (k + 1) 0] ++ a.drop (k + 1))) (ev_catT (ev_catT (ev_slT (vv 0) eo_no (eo_at (vv 5))) (ev_tup (ea_cons (ev_ixT (d := .int (a.getD (k + 1) 0)) (vb 0) (ev_add (vv 5) ev_int) (at_ (k + 1) (by omega))) ea_nil) rfl (by show 1 ≤ _; decide)) ?_) (ev_slT (vv 0) (eo_at (ev_add (vv 5) ev_int)) eo_no) ?_) ?_) ?_ ?_
    · rw [tk, List.length_map, List.length_take]; show _ + 1 ≤ _; omega
    · rw [tk, show ((k : Int) + 1) = ((k + 1 : Nat) : Int) from rfl, dr, List.length_append, List.length_map, List.length_take, List.length_map, List.length_drop]; show _ + 1 + _ ≤ _; omega
    · rw [tk, show ((k : Int) + 1) = ((k + 1 : Nat) : Int) from rfl, dr]; unfold encT; rw [List.map_append, List.map_append]; rfl
    · rw [List.length_append, List.length_map]; show _ + 1 ≤ _; omega
    refine d_app 4 (Ev.as (d' := encT (a.take k ++ [a.getD (k + 1) 0, a.getD (k + 2) 0, a.getD k 0] ++ a.drop (k + 3))) (ev_catT (ev_catT (ev_slT (vv 0) eo_no (eo_at (vv 5))) (ev_tup (ea_cons (ev_ixT (d := .int (a.getD (k + 1) 0)) (vb 0) (ev_add (vv 5) ev_int) (at_ (k + 1) (by omega))) (ea_cons (ev_ixT (d := .int (a.getD (k + 2) 0)) (vb 0) (ev_add (vv 5) ev_int) (at_ (k + 2) (by omega))) (ea_cons (ev_ixT (d := .int (a.getD k 0)) (vb 0) (vv 5) (at_ k (by omega))) ea_nil))) rfl (by show 3 ≤ _; decide)) ?_) (ev_slT (vv 0) (eo_at (ev_add (vv 5) ev_int)) eo_no) ?_) ?_) ?_ ?_
    · rw [tk, List.length_map, List.length_take]; show _ + 3 ≤ _; omega
    · rw [tk, show ((k : Int) + 3) = ((k + 3 : Nat) : Int) from rfl, dr, List.length_append, List.length_map, List.length_take, List.length_map, List.length_drop]; show _ + 3 + _ ≤ _; omega
    · rw [tk, show ((k : Int) + 3) = ((k + 3 : Nat) : Int) from rfl, dr]; unfold encT; rw [List.map_append, List.map_append]; rfl
    · rw [List.length_append, List.length_append, List.length_map]; show _ + 1 + 1 ≤ _; omega
    exact sds_wk sds_nil (.eq (.eq (.eq (.eq (.eqc (by unfold set3; rw [List.map_append]; simp) (.no .nil))))))
  refine sds_ifn [.va (encT a), .va (encT b), .va (.int t), .va (.int a.length), .ow (.lst ((setsC a b t).map encT)), .no] (et_c cm_gt (vv 3) ev_int) (fun c => ?_) (fun c => ?_) ?_
  rotate_left
  · have c := of_decide_eq_false c
    unfold setsC
    rw [if_neg (by omega)]
    exact sds_nil
  rotate_left
  · have c := of_decide_eq_true c
    have c' : 3 < a.length := by omega
    unfold setsC
    rw [if_pos c']
    have m1 := Int.emod_nonneg t (b := (a.length : Int) - 3) (by omega)
    have m2 := Int.emod_lt_of_pos t (b := (a.length : Int) - 3) (by omega)
    obtain ⟨k, hk⟩ := Int.eq_ofNat_of_zero_le m1
    have sl := setsB_len a b t
    refine d_set 5 scSets.nd ((ev_mod (vv 2) (ev_sub (vv 3) ev_int) (by omega)).ii hk) ?_
    rw [hk, Int.toNat_natCast]
    have sw1 := swap_len a k (k + 1)
    refine d_app 4 (ev_call GS hr (ea_cons (ev_call GS hr (ea_cons (vv 0) (ea_cons (vv 5) (ea_cons ((ev_add (vv 5) ev_int).ii (j := ((k + 1 : Nat) : Int)) rfl) ea_nil))) ⟨a, k, k + 1, rfl, by omega, by omega, rfl⟩) (ea_cons ((ev_add (vv 5) ev_int).ii (j := ((k + 2 : Nat) : Int)) rfl) (ea_cons ((ev_add (vv 5) ev_int).ii (j := ((k + 3 : Nat) : Int)) rfl) ea_nil))) ⟨swapV a k (k + 1), k + 2, k + 3, rfl, by omega, by omega, rfl⟩) ?_ ?_
    · rw [List.length_map]; omega
    refine d_app 4 (ev_call GS hr (ea_cons (vv 0) (ea_cons (vv 5) (ea_cons ((ev_add (vv 5) ev_int).ii (j := ((k + 3 : Nat) : Int)) rfl) ea_nil))) ⟨a, k, k + 3, rfl, by omega, by omega, rfl⟩) ?_ ?_
    · rw [List.length_append, List.length_map]; show _ + 1 ≤ _; omega
    exact sds_wk sds_nil (.eq (.eq (.eq (.eq (.eqc (lst2 _ _ _) (.no .nil))))))
  refine sds_ifn [.va (encT a), .va (encT b), .va (.int t), .va (.int a.length), .ow (.lst ((setsV a b t).map encT)), .no] (et_c cm_gt (vv 3) ev_int) (fun c => ?_) (fun c => ?_) ?_
  rotate_left
  · have c := of_decide_eq_false c
    unfold setsV
    rw [if_neg (by omega)]
    exact sds_nil
  rotate_left
  · have c := of_decide_eq_true c
    have c' : 0 < a.length := by omega
    unfold setsV
    rw [if_pos c']
    have m1 := Int.emod_nonneg t (b := (a.length : Int)) (by omega)
    have m2 := Int.emod_lt_of_pos t (b := (a.length : Int)) (by omega)
    obtain ⟨k, hk⟩ := Int.eq_ofNat_of_zero_le m1
    have sl := setsC_len a b t
    refine d_app 4 (Ev.as (d' := encT (a ++ [a.getD (t % (a.length : Int)).toNat 0])) (ev_catT (vv 0) (ev_tup (ea_cons (ev_ixT (d := .int (a.getD k 0)) (vb 0) ((ev_mod (vv 2) (vv 3) (by omega)).ii hk) (at_ k (by omega))) ea_nil) rfl (by show 1 ≤ _; decide)) ?_) ?_) ?_ ?_
    · rw [List.length_map]; show _ + 1 ≤ _; omega
    · rw [hk, Int.toNat_natCast]; unfold encT; rw [List.map_append]; rfl
    · rw [List.length_map]; omega
    refine d_app 4 (Ev.as (d' := encT (a.dropLast ++ [(a.length : Int) + t % 3])) (ev_catT (ev_slT (vv 0) eo_no (eo_at (ev_neg ev_int))) (ev_tup (ea_cons (ev_add (vv 3) (ev_mod (vv 2) ev_int (by decide))) ea_nil) rfl (by show 1 ≤ _; decide)) ?_) ?_) ?_ ?_
    · rw [bl, List.length_map, List.length_dropLast]; show _ + 1 ≤ _; omega
    · rw [bl]; unfold encT; rw [List.map_append]; rfl
    · rw [List.length_append, List.length_map]; show _ + 1 ≤ _; omega
    exact sds_wk sds_nil (.eq (.eq (.eq (.eq (.eqc (lst2 _ _ _) (.no .nil))))))
  exact d_retV 4 rfl
end
end K91

namespace K91
open PySem PySem.Spec PyProof.Rows L2 Y
theorem next_mem {n : Nat} {F : List (Int × Int)} {s r : List Int} (h : r ∈ nextV n F s) : isAns n F r = true := by
  unfold nextV sortL at h
  have h := (List.mergeSort_perm _ _).mem_iff.mp h
  exact (List.mem_filter.mp h).2
theorem next_len (n : Nat) (F : List (Int × Int)) (s : List Int) : (nextV n F s).length ≤ n := by
  unfold nextV sortL
  rw [(List.mergeSort_perm _ _).length_eq]
  have := List.length_filter_le (isAns n F) ((List.range (n - 1)).map fun k => swapV s k (k + 1))
  rw [List.length_map, List.length_range] at this
  omega
theorem next_eq {n : Nat} {F G : List (Int × Int)} (h : ∀ s, isAns n G s = isAns n F s) (s : List Int) : nextV n G s = nextV n F s := by
  unfold nextV
  rw [show isAns n G = isAns n F from funext h]
section
variable {Pr : Program} {w : World} {K : PySem.W.Frag} {mg : Str → Option Value} {base : Heap}
/-! ### _law_doors_stand -/
def pDoors (C : Addr) : Pm := fun Γ o => ∃ (n : Nat) (F G : List (Int × Int)) (a : List Int) (L : List (List Int)), Γ = [.br (ordD C n G), .br (.lst ((a :: L).map encT)), .va (.int n), .br (.lst (F.map encP))] ∧ OkF n F ∧ OkF n G ∧ F.length ≤ 1000 ∧ G.length ≤ 1000 ∧ n ≤ 60 ∧ L.length ≤ 1000 ∧ (∀ s, isAns n G s = isAns n F s) ∧ (∀ a b, isChg n G a b = chgL n F a b) ∧ o = .ret (.va (.bl true))
theorem scDoors : FnScope ["world", "settings", "count", "facts", "order", "setting", "due", "part", "k"] ["world", "settings", "count", "facts"] (defScope sDoors) := ⟨rfl, rfl, rfl, by decide +kernel, rfl, by decide +kernel, by decide +kernel⟩
structure DoorG (Pr : Program) (w : World) (K : PySem.W.Frag) (mg : Str → Option Value) (base : Heap) (C : Addr) : Prop where
  ans : MtG Pr w K mg base C "is_answer" 2 ["self", "setting"] (pIsAns C)
  chg : MtG Pr w K mg base C "is_change" 3 ["self", "first", "second"] (pIsChg C)
  nxt : MtG Pr w K mg base C "next_answers" 3 ["self", "setting"] (pNext C)
  blk : MtG Pr w K mg base C "blocked" 1 ["self", "setting", "parts", "part"] (pBlocked C)
  isO : FnG Pr w K mg base "_law_is_order" 2 ["setting", "count", "facts"] pIsOrd
  chL : FnG Pr w K mg base "_law_is_change" 3 ["first", "second", "count", "facts"] pChgL
  nxL : FnG Pr w K mg base "_law_next" 3 ["order", "count", "facts"] pNextL
  tru : FnG Pr w K mg base "_law_truth" 1 ["actual", "expected"] pTruth
  equ : FnG Pr w K mg base "_law_equal" 2 ["actual", "expected"] pEqual
theorem ok_doors {f C : Addr} {fd : FuncData} (F : Fun K "_law_doors_stand" "_law_doors_stand" sDoors f fd) (T : Bi mg) (R : OrdT K C) (M : DoorG Pr w K mg base C) : FnOk Pr w K mg base (L2N.CX Pr w) 4 f fd ["world", "settings", "count", "facts"] (mkSp K (pDoors C)) := by
  refine fn_sds F scDoors (fun Γ o ⟨_, _, _, _, _, h2, _⟩ => by rw [h2]; rfl) fun cdv A outer s H E hr H0 Oc Γ o ⟨n, Fs, Gs, a, L, h3, hF, hG, hFl, hGl, hn, hL, hA, hC, h4⟩ => ?_
  subst h3 h4
  have r2 := hr.mono (show 2 ≤ 3 by decide)
  have r1 := hr.mono (show 1 ≤ 3 by decide)
  refine ⟨.ret (.va (.bl true)), ?_, rfl⟩
  refine d_set 4 scDoors.nd (ev_ixL (d := encT a) (vb 1) ev_int (L2.atI_nat (j := 0) rfl)) ?_
  refine d_forP (a :: L) encT (fun (_ : Unit) _ => ()) () (fun _ => [.br (ordD C n Gs), .br (.lst ((a :: L).map encT)), .va (.int n), .br (.lst (Fs.map encP)), .va (encT a), .no, .no, .no, .no]) (passes_of rfl) rfl (ei_lst (vr 1) rfl) (.eq (.eq (.eq (.eq (.eq (.eq (.eq (.eq (.eq .nil))))))))) ?_ (d_ret ev_bl rfl)
  intro _ x pre post hx _
  refine ⟨_, [.br (ordD C n Gs), .br (.lst ((a :: L).map encT)), .va (.int n), .br (.lst (Fs.map encP)), .va (encT a), .va (encT x), .va (.bl (isAns n Fs x)), .no, .no], t_name 5 scDoors.nd, ?_, .eq (.eq (.eq (.eq (.eq (.no (.no (.eq (.eq .nil))))))))⟩
  refine d_set 6 scDoors.nd (ev_call M.isO r2 (ea_cons (vv 5) (ea_cons (vv 2) (ea_cons (vr 3) ea_nil))) ⟨_, n, Fs, x, rfl, rfl, hF, hFl, by omega, rfl⟩) ?_
  refine sds_ifn (q := false) _ (Et.bb (et_not (et_val (ev_call M.tru r1 (ea_cons ((ev_meth R.cl M.ans r2 (vr 0) rfl (by decide) (ea_cons (vv 5) ea_nil) ⟨_, n, Gs, x, rfl, rfl, hG, hGl, by omega, rfl⟩).bb (hA x)) (ea_cons (vv 6) ea_nil)) ⟨_, _, rfl, rfl⟩))) (by simp)) (fun z => nomatch z) (fun _ => sds_nil) ?_
  refine sds_ifn (q := false) _ (Et.bb (et_not (et_val (ev_call M.tru r1 (ea_cons ((ev_meth R.cl M.chg hr (vr 0) rfl (by decide) (ea_cons (vv 4) (ea_cons (vv 5) ea_nil)) ⟨_, n, Gs, a, x, rfl, rfl, hG, hGl, by omega, rfl⟩).bb (hC a x)) (ea_cons (ev_call M.chL hr (ea_cons (vv 4) (ea_cons (vv 5) (ea_cons (vv 2) (ea_cons (vr 3) ea_nil)))) ⟨_, n, Fs, a, x, rfl, rfl, hF, hFl, by omega, rfl⟩) ea_nil)) ⟨_, _, rfl, rfl⟩))) (by simp)) (fun z => nomatch z) (fun _ => sds_nil) ?_
  refine sds_ifn (q := false) _ (Et.bb (et_not (et_val (ev_call M.tru r1 (ea_cons ((ev_meth R.cl M.chg hr (vr 0) rfl (by decide) (ea_cons (vv 5) (ea_cons (vv 4) ea_nil)) ⟨_, n, Gs, x, a, rfl, rfl, hG, hGl, by omega, rfl⟩).bb (hC x a)) (ea_cons (ev_call M.chL hr (ea_cons (vv 5) (ea_cons (vv 4) (ea_cons (vv 2) (ea_cons (vr 3) ea_nil)))) ⟨_, n, Fs, x, a, rfl, rfl, hF, hFl, by omega, rfl⟩) ea_nil)) ⟨_, _, rfl, rfl⟩))) (by simp)) (fun z => nomatch z) (fun _ => sds_nil) ?_
  refine sds_ifn _ (et_val (vv 6)) (fun c => ?_) (fun _ => sds_nil) sds_nil
  have cG : isAns n Gs x = true := by rw [hA x]; exact c
  refine sds_ifn (q := false) _ (Et.bb (et_not (et_val (ev_call M.equ r2 (ea_cons (Ev.aso (d' := .lst ((nextV n Fs x).map encT)) (ev_meth R.cl M.nxt hr (vr 0) rfl (by decide) (ea_cons (vv 5) ea_nil) ⟨_, n, Gs, x, rfl, rfl, rfl, hG, hGl, hn, cG, rfl⟩) (by rw [next_eq hA])) (ea_cons (ev_call M.nxL hr (ea_cons (vv 5) (ea_cons (vv 2) (ea_cons (vr 3) ea_nil))) ⟨_, n, Fs, x, rfl, rfl, hF, hFl, hn, c, rfl⟩) ea_nil)) ⟨_, _, nextV n Fs x, rfl, rfl, rfl, ?_, ?_, rfl, rfl⟩))) (by simp)) (fun z => nomatch z) (fun _ => sds_nil) ?_
  · have := next_len n Fs x
    omega
  · intro r hr3
    have := (ans_bd (next_mem hr3)).1
    omega
  refine d_forP (List.range n) (fun k : Nat => .int k) (fun (_ : Unit) _ => ()) () (fun _ => [.br (ordD C n Gs), .br (.lst ((a :: L).map encT)), .va (.int n), .br (.lst (Fs.map encP)), .va (encT a), .va (encT x), .va (.bl (isAns n Fs x)), .no, .no]) (passes_of rfl) rfl (i_rng T.range (vv 2) (by omega)) (.eq (.eq (.eq (.eq (.eq (.eq (.eq (.eq (.eq .nil))))))))) ?_ sds_nil
  intro _ k pre post hx _
  refine ⟨_, _, t_name 7 scDoors.nd, sds_ifn (q := false) _ (Et.bb (et_not (et_val (ev_call M.tru r1 (ea_cons (ev_meth R.cl M.blk r1 (vr 0) rfl (by decide) (ea_cons (vv 5) (ea_cons (Ev.aso (d' := .lst ((List.range n).map fun k : Nat => D.int k)) ?_ rfl) (ea_cons (vv 7) ea_nil))) ⟨_, _, _, _, rfl, rfl⟩) (ea_cons ev_bl ea_nil)) ⟨_, _, rfl, rfl⟩))) (by simp)) (fun z => nomatch z) (fun _ => sds_nil) sds_nil, .eq (.eq (.eq (.eq (.eq (.eq (.eq (.no (.eq .nil))))))))⟩
  exact e_lc (own := [("k", 8)]) (List.range n) (fun k : Nat => .int k) (fun k => .int k) (fun j => [.br (ordD C n Gs), .br (.lst ((a :: L).map encT)), .va (.int n), .br (.lst (Fs.map encP)), .va (encT a), .va (encT x), .va (.bl (isAns n Fs x)), .va (.int k), .va (.int j)]) rfl scDoors.nd (blkOk_by (by rfl)) (i_rng T.range (vv 2) (by omega)) (by rw [List.length_range]; omega) (fun x hx _ _ _ _ _ _ _ => tw_name 8 scDoors.nd) (fun k _ => ⟨rfl, .eq (.eq (.eq (.eq (.eq (.eq (.eq (.eq (.no .nil))))))))⟩) (fun k hk _ _ _ _ _ _ _ => vv 8)
end
end K91

namespace K91
open PySem PySem.Spec PyProof.Rows L2 Y
/-! ### the plain part -/
theorem ans_sort (n : Nat) (F : List (Int × Int)) (s : List Int) : isAns n (sortF F) s = isAns n F s := by
  unfold isAns
  congr 1
  rw [Bool.eq_iff_iff, List.all_eq_true, List.all_eq_true]
  exact ⟨fun h x hx => h x (mem_sortF.mpr hx), fun h x hx => h x (mem_sortF.mp hx)⟩
theorem chg_sort (n : Nat) (F : List (Int × Int)) (a b : List Int) : isChg n (sortF F) a b = isChg n F a b := by
  unfold isChg
  rw [ans_sort, ans_sort]
theorem ans_perm {n : Nat} {F : List (Int × Int)} {s : List Int} (h : isAns n F s = true) : s.Perm (idV n) := by
  unfold isAns at h
  rw [Bool.and_eq_true, decide_eq_true_eq] at h
  exact (sortI_perm s).symm.trans (by rw [h.1])
theorem idV_nodup (n : Nat) : (idV n).Nodup := by
  unfold idV
  exact List.pairwise_map.mpr (List.Pairwise.imp (fun h z => h (Int.ofNat.inj z)) List.nodup_range)
theorem filter_two {n k : Nat} (h : k + 1 < n) (p : Nat → Bool) (hp : ∀ i, i < n → (p i = true ↔ i = k ∨ i = k + 1)) : (List.range n).filter p = [k, k + 1] := by
  have e : List.range n = List.range k ++ (k :: (k + 1) :: List.range' (k + 2) (n - (k + 2))) := by
    rw [List.range_eq_range', List.range_eq_range', show n = k + ((n - (k + 2)) + 1 + 1) by omega, ← List.range'_append_1, List.range'_succ, List.range'_succ]
    simp
    omega
  rw [e, List.filter_append, List.filter_cons_of_pos ((hp k (by omega)).mpr (.inl rfl)), List.filter_cons_of_pos ((hp (k + 1) h).mpr (.inr rfl))]
  rw [List.filter_eq_nil_iff.mpr fun i hi => by
    have := List.mem_range.mp hi
    intro z
    have := (hp i (by omega)).mp z
    omega]
  rw [List.filter_eq_nil_iff.mpr fun i hi => by
    have := List.mem_range'_1.mp hi
    intro z
    have := (hp i (by omega)).mp z
    omega]
  rfl
theorem unlike_swap {a : List Int} {k : Nat} (h : k + 1 < a.length) (nd : a.Nodup) : unlikeV a (swapV a k (k + 1)) = [k, k + 1] := by
  unfold unlikeV
  refine filter_two h _ fun i hi => ?_
  have e : (swapV a k (k + 1)).getD i 0 = if i = k + 1 then a.getD k 0 else if i = k then a.getD (k + 1) 0 else a.getD i 0 := by
    unfold swapV
    simp only [List.getD_eq_getElem?_getD, List.getElem?_set]
    by_cases h1 : i = k + 1
    · subst h1
      simp [h]
    · by_cases h2 : i = k
      · subst h2
        simp [show ¬ (i + 1 = i) by omega, hi]
      · simp [h1, h2, show ¬ (k + 1 = i) by omega, show ¬ (k = i) by omega]
  have ne : a.getD k 0 ≠ a.getD (k + 1) 0 := by
    rw [List.getD_eq_getElem?_getD, List.getD_eq_getElem?_getD, List.getElem?_eq_getElem h, List.getElem?_eq_getElem (by omega : k < a.length)]
    intro z
    exact (List.pairwise_iff_getElem.mp nd) k (k + 1) (by omega) h (by omega) z
  rw [e]
  by_cases h1 : i = k + 1
  · subst h1
    rw [if_pos rfl, decide_eq_false (Ne.symm ne)]
    exact ⟨fun _ => .inr rfl, fun _ => rfl⟩
  · by_cases h2 : i = k
    · subst h2
      rw [if_neg h1, if_pos rfl, decide_eq_false ne]
      exact ⟨fun _ => .inl rfl, fun _ => rfl⟩
    · simp [h1, h2]
theorem swap_of {a b : List Int} {k : Nat} (hl : b.length = a.length) (h : k + 1 < a.length) (pm : a.Perm b) (nk : a.getD k 0 ≠ b.getD k 0) (eq : ∀ i, i < a.length → i ≠ k → i ≠ k + 1 → a.getD i 0 = b.getD i 0) : swapV a k (k + 1) = b := by
  have ea : a = a.take k ++ ([a.getD k 0, a.getD (k + 1) 0] ++ a.drop (k + 2)) := by
    have e1 := List.drop_eq_getElem_cons (show k < a.length by omega)
    have e2 := List.drop_eq_getElem_cons h
    rw [List.getD_eq_getElem?_getD, List.getD_eq_getElem?_getD, List.getElem?_eq_getElem h, List.getElem?_eq_getElem (by omega : k < a.length)]
    show a = a.take k ++ (a[k] :: a[k + 1] :: a.drop (k + 2))
    rw [← e2, ← e1, List.take_append_drop]
  have eb : b = b.take k ++ ([b.getD k 0, b.getD (k + 1) 0] ++ b.drop (k + 2)) := by
    have e1 := List.drop_eq_getElem_cons (show k < b.length by omega)
    have e2 := List.drop_eq_getElem_cons (show k + 1 < b.length by omega)
    rw [List.getD_eq_getElem?_getD, List.getD_eq_getElem?_getD, List.getElem?_eq_getElem (by omega : k + 1 < b.length), List.getElem?_eq_getElem (by omega : k < b.length)]
    show b = b.take k ++ (b[k] :: b[k + 1] :: b.drop (k + 2))
    rw [← e2, ← e1, List.take_append_drop]
  have gD : ∀ (l : List Int) (i : Nat) (hi : i < l.length), l.getD i 0 = l[i] := fun l i hi => by rw [List.getD_eq_getElem?_getD, List.getElem?_eq_getElem hi]; rfl
  have t1 : a.take k = b.take k := by
    refine List.ext_getElem (by rw [List.length_take, List.length_take, hl]) fun i h1 h2 => ?_
    rw [List.length_take] at h1
    rw [List.getElem_take, List.getElem_take, ← gD a i (by omega), ← gD b i (by omega)]
    exact eq i (by omega) (by omega) (by omega)
  have t2 : a.drop (k + 2) = b.drop (k + 2) := by
    refine List.ext_getElem (by rw [List.length_drop, List.length_drop, hl]) fun i h1 h2 => ?_
    rw [List.length_drop] at h1
    rw [List.getElem_drop, List.getElem_drop, ← gD a _ (by omega), ← gD b _ (by omega)]
    exact eq _ (by omega) (by omega) (by omega)
  have pp : [a.getD k 0, a.getD (k + 1) 0].Perm [b.getD k 0, b.getD (k + 1) 0] := by
    rw [ea, eb, t1, t2] at pm
    have p2 := (List.perm_append_left_iff _).mp pm
    exact (List.perm_append_right_iff _).mp p2
  rw [← swap_cut h, t1, t2]
  refine Eq.trans ?_ eb.symm
  congr 2
  generalize a.getD k 0 = x at *
  generalize a.getD (k + 1) 0 = y at *
  generalize b.getD k 0 = x' at *
  generalize b.getD (k + 1) 0 = y' at *
  have m1 : x ∈ [x', y'] := pp.mem_iff.mp (by simp)
  have m2 : x' ∈ [x, y] := pp.mem_iff.mpr (by simp)
  simp at m1 m2
  have q1 : x = y' := m1.resolve_left nk
  have q2 : x' = y := m2.resolve_left (Ne.symm nk)
  rw [q1, q2]
theorem chg_eq (n : Nat) (F : List (Int × Int)) (a b : List Int) : isChg n F a b = chgL n F a b := by
  unfold isChg chgL
  cases h1 : isAns n F a with
  | false => rfl
  | true =>
  cases h2 : isAns n F b with
  | false => rfl
  | true =>
  obtain ⟨la, _⟩ := ans_bd h1
  obtain ⟨lb, _⟩ := ans_bd h2
  have pa := ans_perm h1
  have pb := ans_perm h2
  have nd : a.Nodup := pa.nodup_iff.mpr (idV_nodup n)
  rw [Bool.eq_iff_iff]
  simp only [Bool.true_and, Bool.and_eq_true, decide_eq_true_eq, List.any_eq_true, List.mem_range]
  constructor
  · rintro ⟨c1, c2⟩
    obtain ⟨u, v, e⟩ : ∃ u v, unlikeV a b = [u, v] := by
      match h : unlikeV a b, c1 with
      | [u, v], _ => exact ⟨u, v, rfl⟩
    rw [e] at c2
    have c2 : v = u + 1 := c2
    subst c2
    have mm : ∀ i, i ∈ unlikeV a b ↔ i < a.length ∧ ¬ a.getD i 0 = b.getD i 0 := fun i => by unfold unlikeV; simp
    have m1 := (mm (u + 1)).mp (by rw [e]; simp)
    have m0 := (mm u).mp (by rw [e]; simp)
    refine ⟨u, by omega, swap_of (by omega) m1.1 (pa.trans pb.symm) m0.2 fun i hi n1 n2 => ?_⟩
    refine Decidable.byContradiction fun z => ?_
    have := (mm i).mpr ⟨hi, z⟩
    rw [e] at this
    simp at this
    omega
  · rintro ⟨k, hk, e⟩
    rw [← e, unlike_swap (by omega) nd]
    exact ⟨rfl, rfl⟩
end K91

namespace K91
open PySem PySem.Spec PyProof.Rows L2 Y
/-! ### kept, and the wrong lists -/
def keepS (acc : List (List Int)) (x : List Int) : List (List Int) := if x ∈ acc then acc else acc ++ [x]
theorem keep_inv : ∀ (xs acc : List (List Int)), acc.Nodup → (xs.foldl keepS acc).Nodup ∧ (∀ x, x ∈ xs.foldl keepS acc ↔ x ∈ acc ∨ x ∈ xs) ∧ ∃ S, S.Sublist xs ∧ xs.foldl keepS acc = acc ++ S
  | [], acc, h => ⟨h, fun x => by simp, [], .refl _, (List.append_nil _).symm⟩
  | y :: xs, acc, h => by
    rw [List.foldl_cons]
    by_cases c : y ∈ acc
    · have e : keepS acc y = acc := if_pos c
      rw [e]
      obtain ⟨a1, a2, S, a3, a4⟩ := keep_inv xs acc h
      refine ⟨a1, fun x => ?_, S, a3.cons _, a4⟩
      rw [a2, List.mem_cons]
      constructor
      · rintro (h | h)
        · exact .inl h
        · exact .inr (.inr h)
      · rintro (h | rfl | h)
        · exact .inl h
        · exact .inl c
        · exact .inr h
    · have e : keepS acc y = acc ++ [y] := if_neg c
      rw [e]
      have nd : (acc ++ [y]).Nodup := by
        rw [List.nodup_append]
        refine ⟨h, by simp, fun a ha b hb => ?_⟩
        rw [List.mem_singleton.mp hb]
        intro z
        exact c (z ▸ ha)
      obtain ⟨a1, a2, S, a3, a4⟩ := keep_inv xs (acc ++ [y]) nd
      refine ⟨a1, fun x => ?_, y :: S, a3.cons_cons _, by rw [a4, List.append_assoc]; rfl⟩
      rw [a2, List.mem_append, List.mem_singleton, List.mem_cons, or_assoc]
theorem keep_sort (L : List (List Int)) : (sortL L).foldl keepS [] = sortSet L := by
  obtain ⟨a1, a2, S, a3, a4⟩ := keep_inv (sortL L) [] List.nodup_nil
  refine sortSet_uniq a1 (fun x => ?_) ?_
  · rw [a2, (sortL_perm L).mem_iff]
    simp
  · rw [a4]
    exact (sortL_pair L).sublist a3
theorem badFrom_all {n : Int} : ∀ {F : List (Int × Int)} {i : Nat}, (∀ p ∈ F, badF n p = false) → badFrom n i F = none
  | [], _, _ => rfl
  | p :: F, i, h => by
    have h1 := h p (by simp)
    have ih := badFrom_all (n := n) (F := F) (i := i + 1) fun q hq => h q (by simp [hq])
    unfold badFrom
    rw [h1]
    exact ih
theorem badFrom_at {n : Int} {q : Int × Int} {B : List (Int × Int)} (hq : badF n q = true) : ∀ {A : List (Int × Int)} {i : Nat}, (∀ p ∈ A, badF n p = false) → badFrom n i (A ++ q :: B) = some (i + A.length)
  | [], i, _ => by
    show badFrom n i (q :: B) = some i
    unfold badFrom
    rw [hq]
    rfl
  | p :: A, i, h => by
    have h1 := h p (by simp)
    have ih := badFrom_at (n := n) (B := B) hq (A := A) (i := i + 1) fun q hq => h q (by simp [hq])
    show badFrom n i (p :: (A ++ q :: B)) = _
    unfold badFrom
    rw [h1]
    refine Eq.trans ih ?_
    rw [List.length_cons]
    congr 1
    omega
theorem wrong_bad {n c k : Int} (hn : 0 ≤ n) (hk : 0 ≤ k) : badF n (wrongF n c k) = true := by
  unfold badF wrongF
  simp only [Bool.or_eq_true, decide_eq_true_eq]
  split
  · right; left; show n ≤ max k n; omega
  · split
    · right; left; show n ≤ max (n + k) 0; omega
    · split
      · left; show min (-1 - k) k < 0; omega
      · split
        · left; show min k (-1) < 0; omega
        · right; right; rfl
theorem good_bad {n : Nat} {p : Int × Int} (h : (0 ≤ p.1 ∧ p.1 < (n : Int)) ∧ 0 ≤ p.2 ∧ p.2 < (n : Int)) (ne : p.1 ≠ p.2) : badF n p = false := by
  unfold badF
  simp only [Bool.or_eq_false_iff, decide_eq_false_iff_not]
  omega
theorem ordErr_none {n : Nat} {F : List (Int × Int)} (hn : n ≤ 9) (hl : F.length ≤ 36) (h : ∀ p ∈ F, badF n p = false) : ordErr n F = none := by
  unfold ordErr
  rw [if_neg (by omega), badFrom_all h]
  rfl
theorem ordErr_at {n : Nat} {q : Int × Int} {A B : List (Int × Int)} (hn : n ≤ 9) (hl : A.length + B.length + 1 ≤ 36) (hq : badF n q = true) (h : ∀ p ∈ A, badF n p = false) : ordErr n (A ++ q :: B) = some (A.length : Int) := by
  unfold ordErr
  rw [if_neg (by rw [List.length_append, List.length_cons]; omega), badFrom_at hq h, Nat.zero_add]
  rfl
theorem ordErr_neg {n : Int} {F : List (Int × Int)} (h : n < 0 ∨ 9 < n ∨ 36 < F.length) : ordErr n F = some (-1) := if_pos h
theorem sort_rep (p : Int × Int) (m : Nat) : sortF (List.replicate (m + 1) p) = [p] := by
  unfold sortF
  have e : sortSet ((List.replicate (m + 1) p).map toL) = [toL p] := (sortSet_uniq (by simp) (fun x => by
    rw [List.map_replicate, List.mem_replicate, List.mem_singleton]
    exact ⟨fun h => ⟨by omega, h⟩, fun h => h.2⟩) (by simp)).symm
  rw [e]
  rfl
end K91

namespace K91
open PySem PySem.Spec PyProof.Rows L2 Y
theorem twelve : ∀ (c : Int), ∃ a0 a1 a2 a3 a4 a5 a6 a7 a8 a9 b0 b1 : Int, drawV c [8, 6, 7, 3, 10, 37, 1000, 1000, 5, 2, 9, 37] = [a0, a1, a2, a3, a4, a5, a6, a7, a8, a9, b0, b1] ∧ (0 ≤ a1 ∧ a1 < 6) ∧ (0 ≤ a2 ∧ a2 < 7) ∧ (0 ≤ a4 ∧ a4 < 10) ∧ (0 ≤ a5 ∧ a5 < 37) ∧ (0 ≤ a7 ∧ a7 < 1000) ∧ (0 ≤ b0 ∧ b0 < 9) ∧ (0 ≤ b1 ∧ b1 < 37) := by
  intro c
  have hl := drawV_len c [8, 6, 7, 3, 10, 37, 1000, 1000, 5, 2, 9, 37]
  have g := drawV_get c [8, 6, 7, 3, 10, 37, 1000, 1000, 5, 2, 9, 37]
  generalize drawV c [8, 6, 7, 3, 10, 37, 1000, 1000, 5, 2, 9, 37] = l at hl g
  match l, hl with
  | [a0, a1, a2, a3, a4, a5, a6, a7, a8, a9, b0, b1], _ =>
    obtain ⟨_, e1, c1⟩ := g 1 6 rfl (by decide)
    obtain ⟨_, e2, c2⟩ := g 2 7 rfl (by decide)
    obtain ⟨_, e3, c3⟩ := g 4 10 rfl (by decide)
    obtain ⟨_, e4, c4⟩ := g 5 37 rfl (by decide)
    obtain ⟨_, e5, c5⟩ := g 7 1000 rfl (by decide)
    obtain ⟨_, e6, c6⟩ := g 10 9 rfl (by decide)
    obtain ⟨_, e7, c7⟩ := g 11 37 rfl (by decide)
    cases e1
    cases e2
    cases e3
    cases e4
    cases e5
    cases e6
    cases e7
    exact ⟨_, _, _, _, _, _, _, _, _, _, _, _, rfl, c1, c2, c3, c4, c5, c6, c7⟩
/-- what the law's body calls -/
structure LawG (Pr : Program) (w : World) (K : PySem.W.Frag) (mg : Str → Option Value) (base : Heap) (C CE CW : Addr) : Prop where
  cell : FnG Pr w K mg base "_law_cell" 1 ["script", "k"] pCell
  draw : FnG Pr w K mg base "_law_draw" 1 ["cell", "bases"] pDraw
  ord : FnG Pr w K mg base "_law_order" 2 ["cell", "count"] pOrderL
  fac : FnG Pr w K mg base "_law_facts" 2 ["cell", "many", "order", "agree"] pFacts
  mak : ClG Pr w K mg base "Orders" C 4 ["self", "count", "facts"] (pOrd C CE)
  int : FnG Pr w K mg base "_law_int" 1 ["actual", "expected"] pInt
  equ : FnG Pr w K mg base "_law_equal" 2 ["actual", "expected"] pEqual
  dor : FnG Pr w K mg base "_law_doors_stand" 4 ["world", "settings", "count", "facts"] (pDoors C)
  set : FnG Pr w K mg base "_law_settings" 2 ["order", "second", "at"] pSets
  prs : FnG Pr w K mg base "unlike_pairs" 2 ["first", "second"] pPairs
  prL : FnG Pr w K mg base "_law_unlike" 2 ["first", "second"] pPairs
  wro : FnG Pr w K mg base "_law_wrong_fact" 1 ["count", "choice", "k"] pWrong
  ref : FnG Pr w K mg base "_law_refused" 6 ["count", "facts", "index"] pRefused
  gW : mg "World" = some (.ref CW)
  isW : PySem.W.kitOne K (.ref C) (.ref CW) = some true
  isc : IsC K C
theorem scLaw : FnScope ["script", "shape", "count", "many", "order", "second", "facts", "given", "world", "kept", "fact", "at", "wrong", "pair"] ["script"] (defScope sLaw) := ⟨rfl, rfl, rfl, by decide +kernel, rfl, by decide +kernel, by decide +kernel⟩
end K91

namespace K91
open PySem PySem.Spec PyProof.Rows L2 Y
/-! ### plain facts for the law's body -/
theorem fact_len (c : Int) (many : Nat) (o : List Int) (ag : Bool) : (factsV c many o ag).length ≤ many := by
  unfold factsV
  split
  · exact Nat.zero_le _
  · rw [List.length_map, List.length_range]; exact Nat.le_refl _
theorem perm_Pl {n : Nat} {s : List Int} (h : s.Perm (idV n)) : s.length = n ∧ Pl s := by
  have l : s.length = n := by rw [h.length_eq, idV_len]
  refine ⟨l, fun x hx => ?_⟩
  have := h.mem_iff.mp hx
  unfold idV at this
  obtain ⟨k, hk, rfl⟩ := List.mem_map.mp this
  have := List.mem_range.mp hk
  omega
theorem keep_len (xs : List (List Int)) : (xs.foldl keepS []).length ≤ xs.length := by
  obtain ⟨_, _, S, a3, a4⟩ := keep_inv xs [] List.nodup_nil
  rw [a4, List.nil_append]
  exact a3.length_le
theorem enc_toL (F : List (Int × Int)) : F.map encP = (F.map toL).map encT := by rw [List.map_map]; rfl
theorem sortF_ok {n : Nat} {F : List (Int × Int)} (h : OkF n F) : OkF n (sortF F) := fun p hp => h p (mem_sortF.mp hp)
theorem sets_cons (u v : List Int) (t : Int) : ∃ L, setsV u v t = u :: L := by
  have hA : ∃ L, setsA u v = u :: L := ⟨_, rfl⟩
  have hB : ∃ L, setsB u v t = u :: L := by
    obtain ⟨L, e⟩ := hA
    unfold setsB
    rw [e]
    split
    · exact ⟨_, rfl⟩
    · exact ⟨_, rfl⟩
  have hC : ∃ L, setsC u v t = u :: L := by
    obtain ⟨L, e⟩ := hB
    unfold setsC
    rw [e]
    split
    · exact ⟨_, rfl⟩
    · exact ⟨_, rfl⟩
  obtain ⟨L, e⟩ := hC
  unfold setsV
  rw [e]
  split
  · exact ⟨_, rfl⟩
  · exact ⟨_, rfl⟩
theorem stepP_self (u : List Int) (i : Nat) : ∀ (ks : List Nat) (acc : List (List Int)), ks.foldl (stepP u u i) acc = acc
  | [], _ => rfl
  | k :: ks, acc => by
    rw [List.foldl_cons, show stepP u u i acc k = acc from if_pos rfl]
    exact stepP_self u i ks acc
theorem pairs_self (v : List Int) : pairsV v v = [] := by
  have : ∀ (is : List Nat) (acc : List (List Int)), is.foldl (rowP v.length (spotsV v) (spotsV v)) acc = acc := by
    intro is
    induction is with
    | nil => intro _; rfl
    | cons i is ih =>
      intro acc
      rw [List.foldl_cons, show rowP v.length (spotsV v) (spotsV v) acc i = acc from stepP_self _ i _ acc]
      exact ih acc
  exact this _ _
theorem pairs_len (a b : List Int) (h : a.length ≤ 500) : (pairsV a b).length ≤ 1000000 := by
  unfold pairsV
  have := rowP_len a.length (spotsV a) (spotsV b) (List.range a.length) []
  rw [List.length_range, List.length_nil, Nat.zero_add] at this
  exact Nat.le_trans this (Nat.le_trans (Nat.mul_le_mul h h) (by decide))
theorem pairs_two (a b : List Int) : ∀ r ∈ pairsV a b, r.length = 2 := by
  have h1 : ∀ (u v : List Int) (i : Nat) (ks : List Nat) (acc : List (List Int)), (∀ r ∈ acc, r.length = 2) → ∀ r ∈ ks.foldl (stepP u v i) acc, r.length = 2 := by
    intro u v i ks
    induction ks with
    | nil => intro acc h; exact h
    | cons k ks ih =>
      intro acc h
      rw [List.foldl_cons]
      refine ih _ ?_
      unfold stepP
      split
      · exact h
      · intro r hr
        rcases List.mem_append.mp hr with hr | hr
        · exact h r hr
        · rw [List.mem_singleton.mp hr]; rfl
  have h2 : ∀ (n : Nat) (u v : List Int) (is : List Nat) (acc : List (List Int)), (∀ r ∈ acc, r.length = 2) → ∀ r ∈ is.foldl (rowP n u v) acc, r.length = 2 := by
    intro n u v is
    induction is with
    | nil => intro acc h; exact h
    | cons k is ih =>
      intro acc h
      rw [List.foldl_cons]
      exact ih _ (h1 u v k _ acc h)
  exact h2 _ _ _ _ [] fun r hr => nomatch hr
theorem rev_Pl {v : List Int} (h : Pl v) : Pl v.reverse := fun x hx => by
  have := h x (List.mem_reverse.mp hx)
  rw [List.length_reverse]
  exact this
end K91

namespace K91
open PySem PySem.Spec PyProof.Rows L2 Y
def NL : List Str := ["script", "shape", "count", "many", "order", "second", "facts", "given", "world", "kept", "fact", "at", "wrong", "pair"]
section
variable {Pr : Program} {w : World} {K : PySem.W.Frag} {mg : Str → Option Value} {base : Heap}
/-! ### law, from the wrong facts on -/
theorem law_c {f C CE CW : Addr} {cdv : Value} {A : Around} {outer : List Env} {s : Shared} {H : Hp} {E : XK} (T : Bi mg) (R : OrdT K C) (G : LawG Pr w K mg base C CE CW) (hr : Room 7 (A.deeper (envOfC "law" (defScope sLaw) s.heap.objs.size f cdv))) {H0 : Hp} {Oc : List Addr}
    {a0 a1 a2 a3 a4 a5 a6 a7 a8 a9 b0 b1 : Int} {n : Nat} {u : List Int} {F : List (Int × Int)} (hn : n ≤ 9) (lu : u.length = n) (pu : Pl u) (nu : u.Nodup) (hl : F.length ≤ 36) (hF : ∀ p ∈ F, badF n p = false) (h7 : 0 ≤ a7) (hb0 : 0 ≤ b0) (hb1 : 0 ≤ b1) :
    Sds (cxOf (L2N.CX Pr w) Pr w K mg base NL "law" (defScope sLaw) f cdv A outer s H E) (wx E) H0 Oc [.no, .ow (.lst (([a0, a1, a2, a3, a4, a5, a6, a7, a8, a9, b0, b1] : List Int).map .int)), .va (.int n), .no, .va (encT u), .no, .ow (.lst (F.map encP)), .no, .no, .no, .no, .no, .no, .no] ((defBody sLaw).drop 18) (.ret (.va (.bl true))) := by
  have r1 := hr.mono (show 1 ≤ 7 by decide)
  have r2 := hr.mono (show 2 ≤ 7 by decide)
  have r5 := hr.mono (show 5 ≤ 7 by decide)
  have r6 := hr.mono (show 6 ≤ 7 by decide)
  obtain ⟨k, hk, hk1⟩ : ∃ k : Nat, b1 % (min (F.length : Int) 34 + 1) = (k : Int) ∧ (k : Int) ≤ min (F.length : Int) 34 := by
    have p : 0 < min (F.length : Int) 34 + 1 := by omega
    have m1 := Int.emod_nonneg b1 (b := min (F.length : Int) 34 + 1) (by omega)
    have m2 := Int.emod_lt_of_pos b1 p
    exact ⟨(b1 % (min (F.length : Int) 34 + 1)).toNat, by omega, by omega⟩
  obtain ⟨m, hm⟩ : ∃ m : Int, b0 % max 1 (n : Int) = m ∧ 0 ≤ m := ⟨_, rfl, Int.emod_nonneg b0 (by omega)⟩
  refine d_set 11 scLaw.nd ((ev_mod (ev_ixL (d := .int b1) (vo 1) ev_int (L2.atI_nat (j := 11) rfl)) (ev_add (e_min T.min rfl ((e_len T.len (vo 6)).ii (j := (F.length : Int)) (by rw [List.length_map])) ev_int) ev_int) (by omega)).ii hk) ?_
  have ek : (F.map encP).length = F.length := List.length_map ..
  have cut1 : Y.cutD (F.map encP) none (some (k : Int)) = (F.take k).map encP := by rw [cutD_map, cutD_upto]
  have cut2 : Y.cutD (F.map encP) (some (k : Int)) (some 34) = ((F.take 34).drop k).map encP := by rw [cutD_map]; exact congrArg _ (cutD_nat F k 34)
  refine d_set 12 scLaw.nd (s := .ow (.lst ((F.take k ++ wrongF n a8 m :: (F.take 34).drop k).map encP))) (Ev.aso (ev_catL (ev_catL (ev_slL (vo 6) eo_no (eo_at (vv 11))).r (ev_lst (ea_cons (ev_call G.wro r1 (ea_cons (vv 2) (ea_cons (ev_ixL (d := .int a8) (vo 1) ev_int (L2.atI_nat (j := 8) rfl)) (ea_cons ((ev_mod (ev_ixL (d := .int b0) (vo 1) ev_int (L2.atI_nat (j := 10) rfl)) (e_max T.max rfl ev_int (vv 2)) (by omega)).ii hm.1) ea_nil))) ⟨n, a8, m, rfl, rfl⟩) ea_nil) rfl (by show 1 ≤ _; decide)).r ?_).r (ev_slL (vo 6) (eo_at (vv 11)) (eo_at ev_int)).r ?_) ?_) ?_
  · rw [cut1, List.length_map, List.length_take]; show _ + 1 ≤ _; omega
  · rw [cut1, cut2, List.length_append, List.length_map, List.length_take, List.length_map, List.length_drop, List.length_take]; show _ + 1 + _ ≤ _; omega
  · rw [cut1, cut2, List.map_append, List.append_assoc]; rfl
  have hw : badF n (wrongF n a8 m) = true := wrong_bad (by omega) hm.2
  have hA : ∀ p ∈ F.take k, badF n p = false := fun p hp => hF p (List.mem_of_mem_take hp)
  have lA : (F.take k).length = k := by rw [List.length_take]; omega
  obtain ⟨B, hB, lB⟩ : ∃ B, (if a9 = 1 then (F.take k ++ wrongF n a8 m :: (F.take 34).drop k) ++ [((n : Int), (n : Int))] else F.take k ++ wrongF n a8 m :: (F.take 34).drop k) = F.take k ++ wrongF n a8 m :: B ∧ k + B.length + 1 ≤ 36 := by
    by_cases c : a9 = 1
    · refine ⟨(F.take 34).drop k ++ [((n : Int), (n : Int))], by rw [if_pos c, List.append_assoc]; rfl, ?_⟩
      rw [List.length_append, List.length_drop, List.length_take]
      show k + (_ + 1) + 1 ≤ 36
      omega
    · refine ⟨(F.take 34).drop k, by rw [if_neg c], ?_⟩
      rw [List.length_drop, List.length_take]
      omega
  refine sds_ifn [.no, .ow (.lst (([a0, a1, a2, a3, a4, a5, a6, a7, a8, a9, b0, b1] : List Int).map .int)), .va (.int n), .no, .va (encT u), .no, .ow (.lst (F.map encP)), .no, .no, .no, .no, .va (.int k), .ow (.lst ((F.take k ++ wrongF n a8 m :: B).map encP)), .no]
    (et_c cm_eqI (ev_ixL (d := .int a9) (vo 1) ev_int (L2.atI_nat (j := 9) rfl)) ev_int) (fun c => ?_) (fun c => ?_) ?_
  · rw [← hB, if_pos (of_decide_eq_true c)]
    refine d_app 12 (ev_tup (ea_cons (vv 2) (ea_cons (vv 2) ea_nil)) rfl (by show 2 ≤ _; decide)) ?_ ?_
    · rw [List.length_map, List.length_append, List.length_cons, lA, List.length_drop, List.length_take]; omega
    · exact sds_nilq (by rw [List.map_append (l₂ := [((n : Int), (n : Int))])]; rfl)
  · rw [← hB, if_neg (of_decide_eq_false c)]
    exact sds_nil
  have lW : (F.take k ++ wrongF n a8 m :: B).length ≤ 36 := by rw [List.length_append, List.length_cons, lA]; omega
  have oW : ordErr n (F.take k ++ wrongF n a8 m :: B) = some (k : Int) := by
    have := ordErr_at (n := n) (B := B) hn (by rw [lA]; exact lB) hw hA
    rw [lA] at this
    exact this
  generalize F.take k ++ wrongF n a8 m :: B = Wr at lW oW
  refine sds_ifn (q := false) _ (Et.bb (et_not (et_val (ev_call G.ref r6 (ea_cons (vv 2) (ea_cons (vo 12) (ea_cons (vv 11) ea_nil))) ⟨_, n, Wr, k, rfl, rfl, oW, by omega, rfl⟩))) (by simp)) (fun z => nomatch z) (fun _ => sds_nil) ?_
  have m7 := Int.emod_nonneg a7 (b := 5) (by decide)
  refine sds_ifn (q := false) _ (Et.bb (et_w (ew_or (et_not (et_val (ev_call G.ref r6 (ea_cons (ev_sub (ev_neg ev_int) (ev_mod (ev_ixL (d := .int a7) (vo 1) ev_int (L2.atI_nat (j := 7) rfl)) ev_int (by decide))) (ea_cons (vo 6) (ea_cons (ev_neg ev_int) ea_nil))) ⟨_, -1 - a7 % 5, F, -1, rfl, rfl, ordErr_neg (.inl (by omega)), by omega, rfl⟩))) fun _ => ew_or1 (et_not (et_val (ev_call G.ref r6 (ea_cons (ev_add ev_int (ev_mod (ev_ixL (d := .int a7) (vo 1) ev_int (L2.atI_nat (j := 7) rfl)) ev_int (by decide))) (ea_cons (vo 12) (ea_cons (ev_neg ev_int) ea_nil))) ⟨_, 10 + a7 % 5, Wr, -1, rfl, rfl, ordErr_neg (.inr (.inl (by omega))), by omega, rfl⟩))))) (by simp)) (fun z => nomatch z) (fun _ => sds_nil) ?_
  refine d_ifx (et_c cm_lt (vv 2) ev_int) rfl (fun c => ?_) (fun c => ?_)
  · exact d_ret (ev_call G.ref r6 (ea_cons (vv 2) (ea_cons (Ev.aso (d' := .lst ((List.replicate 37 ((0 : Int), (0 : Int))).map encP)) (ev_repL (ev_lst (ea_cons (ev_tup (ea_cons ev_int (ea_cons ev_int ea_nil)) rfl (by show 2 ≤ _; decide)) ea_nil) rfl (by show 1 ≤ _; decide)).r ev_int (by decide) (by decide) (by show 1 * 37 ≤ _; decide)) rfl) (ea_cons (ev_neg ev_int) ea_nil))) ⟨_, n, List.replicate 37 (0, 0), -1, rfl, rfl, ordErr_neg (.inr (.inr (by decide))), by decide, rfl⟩) rfl
  have c := of_decide_eq_false c
  have c' : 2 ≤ n := by omega
  have x0 : u.getD 0 0 ∈ u := by rw [List.getD_eq_getElem?_getD, List.getElem?_eq_getElem (show 0 < u.length by omega)]; exact List.getElem_mem _
  have x1 : u.getD 1 0 ∈ u := by rw [List.getD_eq_getElem?_getD, List.getElem?_eq_getElem (show 1 < u.length by omega)]; exact List.getElem_mem _
  have y0 := pu _ x0
  have y1 := pu _ x1
  rw [lu] at y0 y1
  have ne : u.getD 0 0 ≠ u.getD 1 0 := by
    rw [List.getD_eq_getElem?_getD, List.getD_eq_getElem?_getD, List.getElem?_eq_getElem (show 0 < u.length by omega), List.getElem?_eq_getElem (show 1 < u.length by omega)]
    intro z
    have := (List.getElem_inj nu).mp z
    omega
  have gb : badF n (u.getD 0 0, u.getD 1 0) = false := good_bad ⟨y0, y1⟩ ne
  refine d_set 13 scLaw.nd (s := .va (encP (u.getD 0 0, u.getD 1 0))) (ev_tup (ea_cons (ev_ixT (d := .int (u.getD 0 0)) (vb 4) ev_int (atI_map (getD_at (k := 0) (by omega)))) (ea_cons (ev_ixT (d := .int (u.getD 1 0)) (vb 4) ev_int (atI_map (getD_at (k := 1) (by omega)))) ea_nil)) rfl (by show 2 ≤ _; decide)) ?_
  generalize (u.getD 0 0, u.getD 1 0) = p at gb
  have rp : ∀ j : Nat, (List.replicate j [encP p]).flatten = (List.replicate j p).map encP := fun j => by
    induction j with
    | zero => rfl
    | succ j ih => rw [List.replicate_succ, List.flatten_cons, ih, List.replicate_succ]; rfl
  have o36 : ordErr n (List.replicate 36 p) = none := ordErr_none hn (by rw [List.length_replicate]; decide) fun q hq => by rw [(List.mem_replicate.mp hq).2]; exact gb
  have s36 : sortF (List.replicate 36 p) = [p] := sort_rep p 35
  refine sds_ifn (q := false) _ (Et.bb (et_not (et_val (ev_call G.equ r2 (ea_cons (ev_fld (d := .lst ([p].map encP)) R.cl R.noF (Ev.r (d := ordD C n [p]) (ev_make (d := ordD C n [p]) G.mak r5 (ea_cons (vv 2) (ea_cons (Ev.aso (d' := .lst ((List.replicate 36 p).map encP)) (ev_repL (ev_lst (ea_cons (vv 13) ea_nil) rfl (by show 1 ≤ _; decide)).r ev_int (by decide) (by decide) (by show 1 * 36 ≤ _; decide)) (congrArg D.lst (rp 36))) ea_nil)) ⟨_, n, List.replicate 36 p, rfl, rfl, by rw [List.length_replicate]; decide, ?_⟩)) rfl) (ea_cons (ev_lst (ea_cons (vv 13) ea_nil) rfl (by show 1 ≤ _; decide)) ea_nil)) ⟨_, _, [toL p], rfl, rfl, rfl, by show 1 ≤ _; decide, ?_, rfl, rfl⟩))) (by simp)) (fun z => nomatch z) (fun _ => sds_nil) ?_
  · rw [o36, s36]; rfl
  · intro r hr'
    rw [List.mem_singleton.mp hr']
    show 2 ≤ _
    decide
  exact d_ret (ev_call G.ref r6 (ea_cons (vv 2) (ea_cons (Ev.aso (d' := .lst ((List.replicate 37 p).map encP)) (ev_repL (ev_lst (ea_cons (vv 13) ea_nil) rfl (by show 1 ≤ _; decide)).r ev_int (by decide) (by decide) (by show 1 * 37 ≤ _; decide)) (congrArg D.lst (rp 37))) (ea_cons (ev_neg ev_int) ea_nil))) ⟨_, n, List.replicate 37 p, -1, rfl, rfl, ordErr_neg (.inr (.inr (by rw [List.length_replicate]; decide))), by rw [List.length_replicate]; decide, rfl⟩) rfl
end
end K91

namespace K91
open PySem PySem.Spec PyProof.Rows L2 Y
section
variable {Pr : Program} {w : World} {K : PySem.W.Frag} {mg : Str → Option Value} {base : Heap}
/-! ### law, from the world on -/
theorem law_b {f C CE CW : Addr} {cdv : Value} {A : Around} {outer : List Env} {s : Shared} {H : Hp} {E : XK} (T : Bi mg) (R : OrdT K C) (G : LawG Pr w K mg base C CE CW) (hr : Room 7 (A.deeper (envOfC "law" (defScope sLaw) s.heap.objs.size f cdv))) {H0 : Hp} {Oc : List Addr}
    {a0 a1 a2 a3 a4 a5 a6 a7 a8 a9 b0 b1 : Int} {n : Nat} {u v : List Int} {F : List (Int × Int)} (hn : n ≤ 9) (lu : u.length = n) (pu : Pl u) (nu : u.Nodup) (lv : v.length = n) (pv : Pl v) (hl : F.length ≤ 36) (hF : ∀ p ∈ F, badF n p = false) (h7 : 0 ≤ a7) (hb0 : 0 ≤ b0) (hb1 : 0 ≤ b1) :
    Sds (cxOf (L2N.CX Pr w) Pr w K mg base NL "law" (defScope sLaw) f cdv A outer s H E) (wx E) H0 Oc [.no, .ow (.lst (([a0, a1, a2, a3, a4, a5, a6, a7, a8, a9, b0, b1] : List Int).map .int)), .va (.int n), .no, .va (encT u), .va (encT v), .ow (.lst (F.map encP)), .no, .no, .no, .no, .no, .no, .no] ((defBody sLaw).drop 7) (.ret (.va (.bl true))) := by
  have r1 := hr.mono (show 1 ≤ 7 by decide)
  have r2 := hr.mono (show 2 ≤ 7 by decide)
  have r4 := hr.mono (show 4 ≤ 7 by decide)
  have r5 := hr.mono (show 5 ≤ 7 by decide)
  have okF : OkF n F := fun p hp => badF_ok (hF p hp)
  have hu : A.units + 3 + 65 < cLine := by
    have := hr.un
    have : (A.deeper (envOfC "law" (defScope sLaw) s.heap.objs.size f cdv)).units = A.units + 3 := rfl
    omega
  refine d_set 7 scLaw.nd (e_list T.list (vo 6)) ?_
  refine d_set 8 scLaw.nd (ev_make (d := ordD C n (sortF F)) G.mak r5 (ea_cons (vv 2) (ea_cons (vo 7) ea_nil)) ⟨_, n, F, rfl, rfl, by omega, by rw [ordErr_none hn hl hF]; rfl⟩) ?_
  refine d_app 7 (ev_tup (ea_cons (vv 2) (ea_cons (vv 2) ea_nil)) rfl (by show 2 ≤ _; decide)) ?_ ?_
  · rw [List.length_map]; omega
  refine d_set 9 scLaw.nd (s := .ow (.lst (([] : List (List Int)).map encT))) (ev_lst ea_nil rfl (by decide)) ?_
  refine d_forP (sortL (F.map toL)) encT keepS [] (fun acc => [.no, .ow (.lst (([a0, a1, a2, a3, a4, a5, a6, a7, a8, a9, b0, b1] : List Int).map .int)), .va (.int n), .no, .va (encT u), .va (encT v), .ow (.lst (F.map encP)), .no, .ow (ordD C n (sortF F)), .ow (.lst (acc.map encT)), .no, .no, .no, .no]) (passes_of rfl) rfl (ei_lst (Ev.fz (e_sortL (L := F.map toL) 2 9 (by decide) T.sorted (Ev.as_b (vo 6) (congrArg D.lst (enc_toL F))) (by rw [List.length_map]; omega) ?_)) rfl)
    (.eq (.eq (.eq (.eq (.eq (.eq (.eq (.no (.eq (.eq (.eq (.eq (.eq (.eq .nil)))))))))))))) ?_ ?_
  · intro x hx
    obtain ⟨p, hp, rfl⟩ := List.mem_map.mp hx
    have := okF p hp
    refine ⟨rfl, fun y hy => ?_⟩
    rcases List.mem_cons.mp hy with rfl | hy
    · omega
    · rw [List.mem_singleton.mp hy]; omega
  · intro acc x pre post hx hacc
    have la : acc.length ≤ 36 := by
      rw [hacc]
      have h1 := keep_len pre
      have h2 := congrArg List.length hx
      have h3 : (sortL (F.map toL)).length = F.length := by rw [(sortL_perm _).length_eq, List.length_map]
      rw [h3, List.length_append, List.length_cons] at h2
      omega
    refine ⟨_, [.no, .ow (.lst (([a0, a1, a2, a3, a4, a5, a6, a7, a8, a9, b0, b1] : List Int).map .int)), .va (.int n), .no, .va (encT u), .va (encT v), .ow (.lst (F.map encP)), .no, .ow (ordD C n (sortF F)), .ow (.lst ((keepS acc x).map encT)), .va (encT x), .no, .no, .no], t_name 10 scLaw.nd, ?_, .eq (.eq (.eq (.eq (.eq (.eq (.eq (.eq (.eq (.eq (.no (.eq (.eq (.eq .nil)))))))))))))⟩
    refine sds_ifn _ (et_c (c_nin hu eqT' 1 okT (by decide) x acc) (vv 10).r (vo 9)) (fun c => ?_) (fun c => ?_) sds_nil
    · have c : x ∉ acc := by simpa using c
      refine d_app 9 (vv 10) ?_ (sds_nilq ?_)
      · rw [List.length_map]; omega
      · rw [show keepS acc x = acc ++ [x] from if_neg c, List.map_append]; rfl
    · have c : x ∈ acc := by simpa using c
      rw [show keepS acc x = acc from if_pos c]
      exact sds_nil
  rw [keep_sort, sortF_enc]
  refine sds_ifn (q := false) _ (Et.bb (et_w (ew_or (et_not (et_val (e_isi T.isi (vo 8) (e_cls G.gW) (.own CW) rfl G.isW (fun D z => by cases z; exact G.isc)))) fun _ => ew_or (et_not (et_val (ev_call G.int r1 (ea_cons (ev_fld (d := .int n) R.cl R.noS (vo 8) rfl) (ea_cons (vv 2) ea_nil)) ⟨n, n, rfl, rfl⟩))) fun _ => ew_or1 (et_not (et_val (ev_call G.int r1 (ea_cons (ev_fld (d := .int n) R.cl R.noC (vo 8) rfl) (ea_cons (vv 2) ea_nil)) ⟨n, n, rfl, rfl⟩))))) (by simp)) (fun z => nomatch z) (fun _ => sds_nil) ?_
  have lS : (sortF F).length ≤ 36 := by
    unfold sortF
    rw [List.length_map, ← keep_sort]
    have h1 := keep_len (sortL (F.map toL))
    have h3 : (sortL (F.map toL)).length = F.length := by rw [(sortL_perm _).length_eq, List.length_map]
    omega
  refine sds_ifn (q := false) _ (Et.bb (et_not (et_val (ev_call G.equ r2 (ea_cons (ev_fld (d := .lst ((sortF F).map encP)) R.cl R.noF (vo 8) rfl) (ea_cons (vo 9) ea_nil)) ⟨_, _, (sortF F).map toL, rfl, congrArg (fun z => some (D.lst z)) (enc_toL _), congrArg (fun z => some (D.lst z)) (enc_toL _), by rw [List.length_map]; omega, ?_, rfl, rfl⟩))) (by simp)) (fun z => nomatch z) (fun _ => sds_nil) ?_
  · intro r hr'
    obtain ⟨p, _, rfl⟩ := List.mem_map.mp hr'
    show 2 ≤ _
    decide
  obtain ⟨L, eL⟩ := sets_cons u v a6
  have lL : L.length ≤ 1000 := by
    have := setsV_len u v a6
    rw [eL, List.length_cons] at this
    omega
  refine sds_ifn (q := false) _ (Et.bb (et_not (et_val (ev_call G.dor r4 (ea_cons (vo 8) (ea_cons (Ev.aso (d' := .lst ((u :: L).map encT)) (ev_call G.set r2 (ea_cons (vv 4) (ea_cons (vv 5) (ea_cons (ev_ixL (d := .int a6) (vo 1) ev_int (L2.atI_nat (j := 6) rfl)) ea_nil))) ⟨u, v, a6, rfl, by omega, rfl⟩) (by rw [eL])) (ea_cons (vv 2) (ea_cons (vo 6) ea_nil)))) ⟨n, F, sortF F, u, L, rfl, okF, sortF_ok okF, by omega, by omega, by omega, lL, ans_sort n F, fun a b => by rw [chg_sort, chg_eq], rfl⟩))) (by simp)) (fun z => nomatch z) (fun _ => sds_nil) ?_
  refine sds_ifn (q := false) _ (Et.bb (et_not (et_val (ev_call G.equ r2 (ea_cons (ev_call G.prs r2 (ea_cons (vv 4) (ea_cons (vv 5) ea_nil)) ⟨u, v, rfl, pu, pv, by omega, by omega, rfl⟩) (ea_cons (ev_call G.prL r2 (ea_cons (vv 4) (ea_cons (vv 5) ea_nil)) ⟨u, v, rfl, pu, pv, by omega, by omega, rfl⟩) ea_nil)) ⟨_, _, pairsV u v, rfl, rfl, rfl, pairs_len u v (by omega), fun r hr' => by rw [pairs_two u v r hr']; decide, rfl, rfl⟩))) (by simp)) (fun z => nomatch z) (fun _ => sds_nil) ?_
  have eR : (D.tup (v.map D.int).reverse) = encT v.reverse := by unfold encT; rw [List.map_reverse]
  have lr : v.reverse.length = n := by rw [List.length_reverse, lv]
  refine sds_ifn (q := false) _ (Et.bb (et_not (et_val (ev_call G.equ r2 (ea_cons (ev_call G.prs r2 (ea_cons (Ev.as (ev_revT (vv 5)) eR) (ea_cons (vv 4) ea_nil)) ⟨v.reverse, u, rfl, rev_Pl pv, pu, by omega, by omega, rfl⟩) (ea_cons (ev_call G.prL r2 (ea_cons (Ev.as (ev_revT (vv 5)) eR) (ea_cons (vv 4) ea_nil)) ⟨v.reverse, u, rfl, rev_Pl pv, pu, by omega, by omega, rfl⟩) ea_nil)) ⟨_, _, pairsV v.reverse u, rfl, rfl, rfl, pairs_len _ u (by omega), fun r hr' => by rw [pairs_two _ u r hr']; decide, rfl, rfl⟩))) (by simp)) (fun z => nomatch z) (fun _ => sds_nil) ?_
  refine sds_ifn (q := false) _ (Et.bb (et_not (et_val (ev_call G.equ r2 (ea_cons (Ev.aso (d' := .lst (([] : List (List Int)).map encT)) (ev_call G.prs r2 (ea_cons (vv 5) (ea_cons (vv 5) ea_nil)) ⟨v, v, rfl, pv, pv, rfl, by omega, rfl⟩) (by rw [pairs_self])) (ea_cons (ev_lst ea_nil rfl (by decide)) ea_nil)) ⟨_, _, [], rfl, rfl, rfl, by decide, (fun r hr' => nomatch hr'), rfl, rfl⟩))) (by simp)) (fun z => nomatch z) (fun _ => sds_nil) ?_
  exact sds_in (.eq (.eq (.eq (.eq (.eq (.no (.eq (.no (.no (.no (.no (.no (.no (.no .nil)))))))))))))) (law_c T R G hr hn lu pu nu hl hF h7 hb0 hb1)
end
end K91

namespace K91
open PySem PySem.Spec PyProof.Rows L2 Y
section
variable {Pr : Program} {w : World} {K : PySem.W.Frag} {mg : Str → Option Value} {base : Heap}
theorem ok_law {f C CE CW : Addr} {fd : FuncData} (F : Fun K "law" "law" sLaw f fd) (T : Bi mg) (R : OrdT K C) (G : LawG Pr w K mg base C CE CW) : FnOk Pr w K mg base (L2N.CX Pr w) 8 f fd ["script"] (mkSp K pLaw) := by
  refine fn_sds F scLaw (fun Γ o ⟨_, h2, _⟩ => by rw [h2]; rfl) fun cdv A outer s H E hr H0 Oc Γ o ⟨ns, h3, hns, h4⟩ => ?_
  subst h3 h4
  have r1 := hr.mono (show 1 ≤ 7 by decide)
  have r2 := hr.mono (show 2 ≤ 7 by decide)
  refine ⟨.ret (.va (.bl true)), ?_, rfl⟩
  obtain ⟨a0, a1, a2, a3, a4, a5, a6, a7, a8, a9, b0, b1, ea, c1, c2, c4, c5, c7, d0, d1⟩ := twelve (cellV ns 0)
  refine d_set 1 scLaw.nd (s := .ow (.lst (([a0, a1, a2, a3, a4, a5, a6, a7, a8, a9, b0, b1] : List Int).map .int))) (Ev.aso (ev_call G.draw r1 (ea_cons (ev_call G.cell r1 (ea_cons (vv 0) (ea_cons ev_int ea_nil)) ⟨ns, 0, hns, rfl, rfl⟩) (ea_cons (ev_ints (ns := [8, 6, 7, 3, 10, 37, 1000, 1000, 5, 2, 9, 37]) rfl (by decide)) ea_nil)) ⟨cellV ns 0, [8, 6, 7, 3, 10, 37, 1000, 1000, 5, 2, 9, 37], by decide, by decide, rfl, rfl⟩) (congrArg (fun l : List Int => D.lst (l.map .int)) ea)) ?_
  obtain ⟨n, m, q1, q2, hn, hm⟩ : ∃ n m : Nat, (a0 = 1 → a4 = n ∧ a5 = m) ∧ (a0 ≠ 1 → a1 = n ∧ a2 = m) ∧ n ≤ 9 ∧ m ≤ 36 := by
    by_cases h : a0 = 1
    · refine ⟨a4.toNat, a5.toNat, fun _ => ⟨?_, ?_⟩, fun z => absurd h z, ?_, ?_⟩ <;> omega
    · refine ⟨a1.toNat, a2.toNat, fun z => absurd z h, fun _ => ⟨?_, ?_⟩, ?_, ?_⟩ <;> omega
  refine d_set 2 scLaw.nd (ev_ixL (d := .int a1) (vo 1) ev_int (L2.atI_nat (j := 1) rfl)) ?_
  refine d_set 3 scLaw.nd (ev_ixL (d := .int a2) (vo 1) ev_int (L2.atI_nat (j := 2) rfl)) ?_
  refine sds_ifn [.va (.fz (ns.map .int)), .ow (.lst (([a0, a1, a2, a3, a4, a5, a6, a7, a8, a9, b0, b1] : List Int).map .int)), .va (.int n), .va (.int m), .no, .no, .no, .no, .no, .no, .no, .no, .no, .no]
    (et_c cm_eqI (ev_ixL (d := .int a0) (vo 1) ev_int (L2.atI_nat (j := 0) rfl)) ev_int) (fun c => ?_) (fun c => ?_) ?_
  · obtain ⟨e1, e2⟩ := q1 (of_decide_eq_true c)
    refine d_set 2 scLaw.nd ((ev_ixL (d := .int a4) (vo 1) ev_int (L2.atI_nat (j := 4) rfl)).ii e1) ?_
    exact d_set 3 scLaw.nd ((ev_ixL (d := .int a5) (vo 1) ev_int (L2.atI_nat (j := 5) rfl)).ii e2) sds_nil
  · obtain ⟨e1, e2⟩ := q2 (of_decide_eq_false c)
    exact sds_nilq (by rw [← e1, ← e2]; rfl)
  have po := orderV_perm (cellV ns 1) n
  have ps := orderV_perm (cellV ns 2) n
  refine d_set 4 scLaw.nd (ev_call G.ord r2 (ea_cons (ev_call G.cell r1 (ea_cons (vv 0) (ea_cons ev_int ea_nil)) ⟨ns, 1, hns, rfl, rfl⟩) (ea_cons (vv 2) ea_nil)) ⟨cellV ns 1, n, rfl, by omega, rfl⟩) ?_
  refine d_set 5 scLaw.nd (ev_call G.ord r2 (ea_cons (ev_call G.cell r1 (ea_cons (vv 0) (ea_cons ev_int ea_nil)) ⟨ns, 2, hns, rfl, rfl⟩) (ea_cons (vv 2) ea_nil)) ⟨cellV ns 2, n, rfl, by omega, rfl⟩) ?_
  generalize orderV (cellV ns 1) n = u at po
  generalize orderV (cellV ns 2) n = v at ps
  obtain ⟨lu, pu⟩ := perm_Pl po
  obtain ⟨lv, pv⟩ := perm_Pl ps
  have nu : u.Nodup := po.nodup_iff.mpr (idV_nodup n)
  refine d_set 6 scLaw.nd (ev_call G.fac r2 (ea_cons (ev_call G.cell r1 (ea_cons (vv 0) (ea_cons ev_int ea_nil)) ⟨ns, 3, hns, rfl, rfl⟩) (ea_cons (vv 3) (ea_cons (vv 4) (ea_cons (ev_c cm_neI (ev_ixL (d := .int a3) (vo 1) ev_int (L2.atI_nat (j := 3) rfl)) ev_int) ea_nil)))) ⟨cellV ns 3, m, u, _, rfl, pu, by omega, by omega, rfl⟩) ?_
  have hF := factsV_ok (cellV ns 3) m u (!decide (a3 = 0))
  have lF := fact_len (cellV ns 3) m u (!decide (a3 = 0))
  generalize factsV (cellV ns 3) m u (!decide (a3 = 0)) = Fs at hF lF
  exact sds_in (.no (.eq (.eq (.no (.eq (.eq (.eq (.eq (.eq (.eq (.eq (.eq (.eq (.eq .nil)))))))))))))) (law_b T R G hr hn lu pu nu lv pv (by omega) (fun p hp => by
    have := hF p hp
    rw [lu] at this
    exact good_bad this.1 this.2) (by omega) (by omega) (by omega))
end
end K91

namespace K91
open PySem PySem.Spec PyProof.Rows L2 Y
abbrev eE : Stmt := inClass (top 5) 0
theorem all_mk {l : PySem.W.OpenLaw} {w : World} {K : PySem.W.Frag} {h : Heap} {mg : Str → Option Value} {fa CS CB CE CW C f_wi f_ans f_chg f_nxt f_blk f_oi cda_oi cc_oi f_unl f_spo f_exc f_prs f_cell f_draw f_int f_tru f_equ f_ord f_spL f_fac f_isO f_swp f_chL f_nxL f_prL f_set f_dor f_ref f_wro f_law f_CE cda_CE cc_CE : Addr} (X : K.In h) (G : h.Ns mainGlobals mg) (hfa : mg "law" = some (.ref fa))
    {od_wi an_wi : Option Addr} {sl_wi : Array (Option Value)} {oc_wi kV_wi dc_wi pm_wi cd_wi ct_wi : Value}
    {od_ans an_ans : Option Addr} {sl_ans : Array (Option Value)} {oc_ans kV_ans dc_ans pm_ans cd_ans ct_ans : Value}
    {od_chg an_chg : Option Addr} {sl_chg : Array (Option Value)} {oc_chg kV_chg dc_chg pm_chg cd_chg ct_chg : Value}
    {od_nxt an_nxt : Option Addr} {sl_nxt : Array (Option Value)} {oc_nxt kV_nxt dc_nxt pm_nxt cd_nxt ct_nxt : Value}
    {od_blk an_blk : Option Addr} {sl_blk : Array (Option Value)} {oc_blk kV_blk dc_blk pm_blk cd_blk ct_blk : Value}
    {od_oi an_oi ccd_oi cld_oi : Option Addr} {sl_oi ccs_oi csl_oi : Array (Option Value)} {vs_oi : Array Value} {file_oi : Str} {tf_oi : Tok} {oc_oi kV_oi dc_oi pm_oi ct_oi ccl_oi cl_oi : Value}
    {od_unl an_unl : Option Addr} {sl_unl : Array (Option Value)} {oc_unl kV_unl dc_unl pm_unl cd_unl ct_unl : Value}
    {od_spo an_spo : Option Addr} {sl_spo : Array (Option Value)} {oc_spo kV_spo dc_spo pm_spo cd_spo ct_spo : Value}
    {od_exc an_exc : Option Addr} {sl_exc : Array (Option Value)} {oc_exc kV_exc dc_exc pm_exc cd_exc ct_exc : Value}
    {od_prs an_prs : Option Addr} {sl_prs : Array (Option Value)} {oc_prs kV_prs dc_prs pm_prs cd_prs ct_prs : Value}
    {od_cell an_cell : Option Addr} {sl_cell : Array (Option Value)} {oc_cell kV_cell dc_cell pm_cell cd_cell ct_cell : Value}
    {od_draw an_draw : Option Addr} {sl_draw : Array (Option Value)} {oc_draw kV_draw dc_draw pm_draw cd_draw ct_draw : Value}
    {od_int an_int : Option Addr} {sl_int : Array (Option Value)} {oc_int kV_int dc_int pm_int cd_int ct_int : Value}
    {od_tru an_tru : Option Addr} {sl_tru : Array (Option Value)} {oc_tru kV_tru dc_tru pm_tru cd_tru ct_tru : Value}
    {od_equ an_equ : Option Addr} {sl_equ : Array (Option Value)} {oc_equ kV_equ dc_equ pm_equ cd_equ ct_equ : Value}
    {od_ord an_ord : Option Addr} {sl_ord : Array (Option Value)} {oc_ord kV_ord dc_ord pm_ord cd_ord ct_ord : Value}
    {od_spL an_spL : Option Addr} {sl_spL : Array (Option Value)} {oc_spL kV_spL dc_spL pm_spL cd_spL ct_spL : Value}
    {od_fac an_fac : Option Addr} {sl_fac : Array (Option Value)} {oc_fac kV_fac dc_fac pm_fac cd_fac ct_fac : Value}
    {od_isO an_isO : Option Addr} {sl_isO : Array (Option Value)} {oc_isO kV_isO dc_isO pm_isO cd_isO ct_isO : Value}
    {od_swp an_swp : Option Addr} {sl_swp : Array (Option Value)} {oc_swp kV_swp dc_swp pm_swp cd_swp ct_swp : Value}
    {od_chL an_chL : Option Addr} {sl_chL : Array (Option Value)} {oc_chL kV_chL dc_chL pm_chL cd_chL ct_chL : Value}
    {od_nxL an_nxL : Option Addr} {sl_nxL : Array (Option Value)} {oc_nxL kV_nxL dc_nxL pm_nxL cd_nxL ct_nxL : Value}
    {od_prL an_prL : Option Addr} {sl_prL : Array (Option Value)} {oc_prL kV_prL dc_prL pm_prL cd_prL ct_prL : Value}
    {od_set an_set : Option Addr} {sl_set : Array (Option Value)} {oc_set kV_set dc_set pm_set cd_set ct_set : Value}
    {od_dor an_dor : Option Addr} {sl_dor : Array (Option Value)} {oc_dor kV_dor dc_dor pm_dor cd_dor ct_dor : Value}
    {od_ref an_ref : Option Addr} {sl_ref : Array (Option Value)} {oc_ref kV_ref dc_ref pm_ref cd_ref ct_ref : Value}
    {od_wro an_wro : Option Addr} {sl_wro : Array (Option Value)} {oc_wro kV_wro dc_wro pm_wro cd_wro ct_wro : Value}
    {od_law an_law : Option Addr} {sl_law : Array (Option Value)} {oc_law kV_law dc_law pm_law cd_law ct_law : Value}
    {nm_CE qn_CE : Str} {N_CE : Addr} {bs_CE su_CE : List Value} {sn_CE : List Str} {ab_CE : Bool} {col_CE : Option Bool} {dd_CE : Option Addr} {m0_CE m1_CE m2_CE m3_CE m5_CE : Option Value}
    {od_CE an_CE ccd_CE cld_CE : Option Addr} {sl_CE ccs_CE csl_CE : Array (Option Value)} {vs_CE : Array Value} {file_CE : Str} {tf_CE : Tok} {oc_CE kV_CE dc_CE pm_CE ct_CE ccl_CE cl_CE : Value}
    {t_MOST_THINGS : Tok}
    {t_MOST_FACTS : Tok}
    (n_CS : PySem.W.nsIn K mainGlobals "StepError" = some (some (.ref CS)))
    (n_CB : PySem.W.nsIn K mainGlobals "BadWeb" = some (some (.ref CB)))
    (n_CE : PySem.W.nsIn K mainGlobals "BadWorld" = some (some (.ref CE)))
    (n_CW : PySem.W.nsIn K mainGlobals "World" = some (some (.ref CW)))
    (n_C : PySem.W.nsIn K mainGlobals "Orders" = some (some (.ref C)))
    (oc0 : PySem.W.specialIn K (.builtin "object.__class__") "__get__" = some (some (.builtin "getset_descriptor.__get__")))
    (oc1 : PySem.W.takesIn K (.builtin "object.__class__") = some true)
    (a_wi : PySem.W.findIn K (.ref CW) "__init__" = some (some (.ref f_wi)))
    (i_wi : PySem.W.isFn K (.ref f_wi) = true)
    (l_wi : K.lookup f_wi = some ⟨oc_wi, od_wi, .func (PySem.W.fnOf "__init__" "World.__init__" (defArgs wInit) (defBody wInit) (defScope wInit) .none kV_wi dc_wi pm_wi an_wi cd_wi ct_wi), sl_wi⟩)
    (c_wi : PySem.W.codeIn K cd_wi "World.__init__" = true)
    (k_wi : PySem.W.keepIn K (.ref f_wi) = true)
    (pg_C : PySem.W.plainGet K C Str.empty = true)
    (hd_C : PySem.W.hasDictIn K C = true)
    (po_C : PySem.W.plainOver K C = true)
    (sa_C : PySem.W.findIn K (.ref C) "__setattr__" = some (some (.builtin "object.__setattr__")))
    (kc_C : PySem.W.keepIn K (.ref C) = true)
    (mk_C : PySem.W.makesIn K C = true)
    (ca_C : PySem.W.findIn K (.ref C) "__class__" = some (some (.builtin "object.__class__")))
    (mo_C : PySem.W.mroIn K C (.type "object") = some true)
    (no_C_size : PySem.W.findIn K (.ref C) "size" = some none)
    (no_C_count : PySem.W.findIn K (.ref C) "count" = some none)
    (no_C_facts : PySem.W.findIn K (.ref C) "facts" = some none)
    (a_ans : PySem.W.findIn K (.ref C) "is_answer" = some (some (.ref f_ans)))
    (i_ans : PySem.W.isFn K (.ref f_ans) = true)
    (l_ans : K.lookup f_ans = some ⟨oc_ans, od_ans, .func (PySem.W.fnOf "is_answer" "Orders.is_answer" (defArgs oIsAnswer) (defBody oIsAnswer) (defScope oIsAnswer) .none kV_ans dc_ans pm_ans an_ans cd_ans ct_ans), sl_ans⟩)
    (c_ans : PySem.W.codeIn K cd_ans "Orders.is_answer" = true)
    (k_ans : PySem.W.keepIn K (.ref f_ans) = true)
    (a_chg : PySem.W.findIn K (.ref C) "is_change" = some (some (.ref f_chg)))
    (i_chg : PySem.W.isFn K (.ref f_chg) = true)
    (l_chg : K.lookup f_chg = some ⟨oc_chg, od_chg, .func (PySem.W.fnOf "is_change" "Orders.is_change" (defArgs oIsChange) (defBody oIsChange) (defScope oIsChange) .none kV_chg dc_chg pm_chg an_chg cd_chg ct_chg), sl_chg⟩)
    (c_chg : PySem.W.codeIn K cd_chg "Orders.is_change" = true)
    (k_chg : PySem.W.keepIn K (.ref f_chg) = true)
    (a_nxt : PySem.W.findIn K (.ref C) "next_answers" = some (some (.ref f_nxt)))
    (i_nxt : PySem.W.isFn K (.ref f_nxt) = true)
    (l_nxt : K.lookup f_nxt = some ⟨oc_nxt, od_nxt, .func (PySem.W.fnOf "next_answers" "Orders.next_answers" (defArgs oNext) (defBody oNext) (defScope oNext) .none kV_nxt dc_nxt pm_nxt an_nxt cd_nxt ct_nxt), sl_nxt⟩)
    (c_nxt : PySem.W.codeIn K cd_nxt "Orders.next_answers" = true)
    (k_nxt : PySem.W.keepIn K (.ref f_nxt) = true)
    (a_blk : PySem.W.findIn K (.ref C) "blocked" = some (some (.ref f_blk)))
    (i_blk : PySem.W.isFn K (.ref f_blk) = true)
    (l_blk : K.lookup f_blk = some ⟨oc_blk, od_blk, .func (PySem.W.fnOf "blocked" "Orders.blocked" (defArgs oBlocked) (defBody oBlocked) (defScope oBlocked) .none kV_blk dc_blk pm_blk an_blk cd_blk ct_blk), sl_blk⟩)
    (c_blk : PySem.W.codeIn K cd_blk "Orders.blocked" = true)
    (k_blk : PySem.W.keepIn K (.ref f_blk) = true)
    (a_oi : PySem.W.findIn K (.ref C) "__init__" = some (some (.ref f_oi)))
    (i_oi : PySem.W.isFn K (.ref f_oi) = true)
    (l_oi : K.lookup f_oi = some ⟨oc_oi, od_oi, .func (PySem.W.fnX "__init__" "Orders.__init__" (defArgs oInit) (defBody oInit) (defScope oInit) [("__class__", cc_oi)] .none kV_oi dc_oi pm_oi an_oi (.ref cda_oi) ct_oi), sl_oi⟩)
    (c_oi : PySem.W.codeIn K (.ref cda_oi) "Orders.__init__" = true)
    (k_oi : PySem.W.keepIn K (.ref f_oi) = true)
    (cd_oi : K.lookup cda_oi = some ⟨ccl_oi, ccd_oi, .fields vs_oi, ccs_oi⟩)
    (v2_oi : vs_oi[2]? = some (.str file_oi tf_oi))
    (pf_oi : ((l.prog.main.file : Str) == file_oi) = true)
    (hc_oi : K.lookup cc_oi = some ⟨cl_oi, cld_oi, .cell (some (.ref C)), csl_oi⟩)
    (ci_oi : PySem.W.isClsIn K C = true)
    (ms_oi : PySem.W.mroIn K C (.ref C) = some true)
    (su_oi : PySem.W.ks_superIn K C C "__init__" = some (some (.ref f_wi)))
    (wt_oi : PySem.W.typeIn K (.ref f_wi) = some (.type "function"))
    (wf_oi : PySem.W.fnIn K f_wi = true)
    (a_unl : PySem.W.nsIn K mainGlobals "unlike" = some (some (.ref f_unl)))
    (l_unl : K.lookup f_unl = some ⟨oc_unl, od_unl, .func (PySem.W.fnOf "unlike" "unlike" (defArgs sUnlike) (defBody sUnlike) (defScope sUnlike) .none kV_unl dc_unl pm_unl an_unl cd_unl ct_unl), sl_unl⟩)
    (c_unl : PySem.W.codeIn K cd_unl "unlike" = true)
    (k_unl : PySem.W.keepIn K (.ref f_unl) = true)
    (a_spo : PySem.W.nsIn K mainGlobals "spots_of" = some (some (.ref f_spo)))
    (l_spo : K.lookup f_spo = some ⟨oc_spo, od_spo, .func (PySem.W.fnOf "spots_of" "spots_of" (defArgs sSpotsOf) (defBody sSpotsOf) (defScope sSpotsOf) .none kV_spo dc_spo pm_spo an_spo cd_spo ct_spo), sl_spo⟩)
    (c_spo : PySem.W.codeIn K cd_spo "spots_of" = true)
    (k_spo : PySem.W.keepIn K (.ref f_spo) = true)
    (a_exc : PySem.W.nsIn K mainGlobals "exchanged" = some (some (.ref f_exc)))
    (l_exc : K.lookup f_exc = some ⟨oc_exc, od_exc, .func (PySem.W.fnOf "exchanged" "exchanged" (defArgs sExchanged) (defBody sExchanged) (defScope sExchanged) .none kV_exc dc_exc pm_exc an_exc cd_exc ct_exc), sl_exc⟩)
    (c_exc : PySem.W.codeIn K cd_exc "exchanged" = true)
    (k_exc : PySem.W.keepIn K (.ref f_exc) = true)
    (a_prs : PySem.W.nsIn K mainGlobals "unlike_pairs" = some (some (.ref f_prs)))
    (l_prs : K.lookup f_prs = some ⟨oc_prs, od_prs, .func (PySem.W.fnOf "unlike_pairs" "unlike_pairs" (defArgs sUnlikePairs) (defBody sUnlikePairs) (defScope sUnlikePairs) .none kV_prs dc_prs pm_prs an_prs cd_prs ct_prs), sl_prs⟩)
    (c_prs : PySem.W.codeIn K cd_prs "unlike_pairs" = true)
    (k_prs : PySem.W.keepIn K (.ref f_prs) = true)
    (a_cell : PySem.W.nsIn K mainGlobals "_law_cell" = some (some (.ref f_cell)))
    (l_cell : K.lookup f_cell = some ⟨oc_cell, od_cell, .func (PySem.W.fnOf "_law_cell" "_law_cell" (defArgs sCell) (defBody sCell) (defScope sCell) .none kV_cell dc_cell pm_cell an_cell cd_cell ct_cell), sl_cell⟩)
    (c_cell : PySem.W.codeIn K cd_cell "_law_cell" = true)
    (k_cell : PySem.W.keepIn K (.ref f_cell) = true)
    (a_draw : PySem.W.nsIn K mainGlobals "_law_draw" = some (some (.ref f_draw)))
    (l_draw : K.lookup f_draw = some ⟨oc_draw, od_draw, .func (PySem.W.fnOf "_law_draw" "_law_draw" (defArgs sDraw) (defBody sDraw) (defScope sDraw) .none kV_draw dc_draw pm_draw an_draw cd_draw ct_draw), sl_draw⟩)
    (c_draw : PySem.W.codeIn K cd_draw "_law_draw" = true)
    (k_draw : PySem.W.keepIn K (.ref f_draw) = true)
    (a_int : PySem.W.nsIn K mainGlobals "_law_int" = some (some (.ref f_int)))
    (l_int : K.lookup f_int = some ⟨oc_int, od_int, .func (PySem.W.fnOf "_law_int" "_law_int" (defArgs sInt) (defBody sInt) (defScope sInt) .none kV_int dc_int pm_int an_int cd_int ct_int), sl_int⟩)
    (c_int : PySem.W.codeIn K cd_int "_law_int" = true)
    (k_int : PySem.W.keepIn K (.ref f_int) = true)
    (a_tru : PySem.W.nsIn K mainGlobals "_law_truth" = some (some (.ref f_tru)))
    (l_tru : K.lookup f_tru = some ⟨oc_tru, od_tru, .func (PySem.W.fnOf "_law_truth" "_law_truth" (defArgs sTruth) (defBody sTruth) (defScope sTruth) .none kV_tru dc_tru pm_tru an_tru cd_tru ct_tru), sl_tru⟩)
    (c_tru : PySem.W.codeIn K cd_tru "_law_truth" = true)
    (k_tru : PySem.W.keepIn K (.ref f_tru) = true)
    (a_equ : PySem.W.nsIn K mainGlobals "_law_equal" = some (some (.ref f_equ)))
    (l_equ : K.lookup f_equ = some ⟨oc_equ, od_equ, .func (PySem.W.fnOf "_law_equal" "_law_equal" (defArgs sEqual) (defBody sEqual) (defScope sEqual) .none kV_equ dc_equ pm_equ an_equ cd_equ ct_equ), sl_equ⟩)
    (c_equ : PySem.W.codeIn K cd_equ "_law_equal" = true)
    (k_equ : PySem.W.keepIn K (.ref f_equ) = true)
    (a_ord : PySem.W.nsIn K mainGlobals "_law_order" = some (some (.ref f_ord)))
    (l_ord : K.lookup f_ord = some ⟨oc_ord, od_ord, .func (PySem.W.fnOf "_law_order" "_law_order" (defArgs sOrder) (defBody sOrder) (defScope sOrder) .none kV_ord dc_ord pm_ord an_ord cd_ord ct_ord), sl_ord⟩)
    (c_ord : PySem.W.codeIn K cd_ord "_law_order" = true)
    (k_ord : PySem.W.keepIn K (.ref f_ord) = true)
    (a_spL : PySem.W.nsIn K mainGlobals "_law_spots" = some (some (.ref f_spL)))
    (l_spL : K.lookup f_spL = some ⟨oc_spL, od_spL, .func (PySem.W.fnOf "_law_spots" "_law_spots" (defArgs sSpots) (defBody sSpots) (defScope sSpots) .none kV_spL dc_spL pm_spL an_spL cd_spL ct_spL), sl_spL⟩)
    (c_spL : PySem.W.codeIn K cd_spL "_law_spots" = true)
    (k_spL : PySem.W.keepIn K (.ref f_spL) = true)
    (a_fac : PySem.W.nsIn K mainGlobals "_law_facts" = some (some (.ref f_fac)))
    (l_fac : K.lookup f_fac = some ⟨oc_fac, od_fac, .func (PySem.W.fnOf "_law_facts" "_law_facts" (defArgs sFacts) (defBody sFacts) (defScope sFacts) .none kV_fac dc_fac pm_fac an_fac cd_fac ct_fac), sl_fac⟩)
    (c_fac : PySem.W.codeIn K cd_fac "_law_facts" = true)
    (k_fac : PySem.W.keepIn K (.ref f_fac) = true)
    (a_isO : PySem.W.nsIn K mainGlobals "_law_is_order" = some (some (.ref f_isO)))
    (l_isO : K.lookup f_isO = some ⟨oc_isO, od_isO, .func (PySem.W.fnOf "_law_is_order" "_law_is_order" (defArgs sIsOrder) (defBody sIsOrder) (defScope sIsOrder) .none kV_isO dc_isO pm_isO an_isO cd_isO ct_isO), sl_isO⟩)
    (c_isO : PySem.W.codeIn K cd_isO "_law_is_order" = true)
    (k_isO : PySem.W.keepIn K (.ref f_isO) = true)
    (a_swp : PySem.W.nsIn K mainGlobals "_law_swapped" = some (some (.ref f_swp)))
    (l_swp : K.lookup f_swp = some ⟨oc_swp, od_swp, .func (PySem.W.fnOf "_law_swapped" "_law_swapped" (defArgs sSwapped) (defBody sSwapped) (defScope sSwapped) .none kV_swp dc_swp pm_swp an_swp cd_swp ct_swp), sl_swp⟩)
    (c_swp : PySem.W.codeIn K cd_swp "_law_swapped" = true)
    (k_swp : PySem.W.keepIn K (.ref f_swp) = true)
    (a_chL : PySem.W.nsIn K mainGlobals "_law_is_change" = some (some (.ref f_chL)))
    (l_chL : K.lookup f_chL = some ⟨oc_chL, od_chL, .func (PySem.W.fnOf "_law_is_change" "_law_is_change" (defArgs sIsChange) (defBody sIsChange) (defScope sIsChange) .none kV_chL dc_chL pm_chL an_chL cd_chL ct_chL), sl_chL⟩)
    (c_chL : PySem.W.codeIn K cd_chL "_law_is_change" = true)
    (k_chL : PySem.W.keepIn K (.ref f_chL) = true)
    (a_nxL : PySem.W.nsIn K mainGlobals "_law_next" = some (some (.ref f_nxL)))
    (l_nxL : K.lookup f_nxL = some ⟨oc_nxL, od_nxL, .func (PySem.W.fnOf "_law_next" "_law_next" (defArgs sNext) (defBody sNext) (defScope sNext) .none kV_nxL dc_nxL pm_nxL an_nxL cd_nxL ct_nxL), sl_nxL⟩)
    (c_nxL : PySem.W.codeIn K cd_nxL "_law_next" = true)
    (k_nxL : PySem.W.keepIn K (.ref f_nxL) = true)
    (a_prL : PySem.W.nsIn K mainGlobals "_law_unlike" = some (some (.ref f_prL)))
    (l_prL : K.lookup f_prL = some ⟨oc_prL, od_prL, .func (PySem.W.fnOf "_law_unlike" "_law_unlike" (defArgs sUnlikeL) (defBody sUnlikeL) (defScope sUnlikeL) .none kV_prL dc_prL pm_prL an_prL cd_prL ct_prL), sl_prL⟩)
    (c_prL : PySem.W.codeIn K cd_prL "_law_unlike" = true)
    (k_prL : PySem.W.keepIn K (.ref f_prL) = true)
    (a_set : PySem.W.nsIn K mainGlobals "_law_settings" = some (some (.ref f_set)))
    (l_set : K.lookup f_set = some ⟨oc_set, od_set, .func (PySem.W.fnOf "_law_settings" "_law_settings" (defArgs sSettings) (defBody sSettings) (defScope sSettings) .none kV_set dc_set pm_set an_set cd_set ct_set), sl_set⟩)
    (c_set : PySem.W.codeIn K cd_set "_law_settings" = true)
    (k_set : PySem.W.keepIn K (.ref f_set) = true)
    (a_dor : PySem.W.nsIn K mainGlobals "_law_doors_stand" = some (some (.ref f_dor)))
    (l_dor : K.lookup f_dor = some ⟨oc_dor, od_dor, .func (PySem.W.fnOf "_law_doors_stand" "_law_doors_stand" (defArgs sDoors) (defBody sDoors) (defScope sDoors) .none kV_dor dc_dor pm_dor an_dor cd_dor ct_dor), sl_dor⟩)
    (c_dor : PySem.W.codeIn K cd_dor "_law_doors_stand" = true)
    (k_dor : PySem.W.keepIn K (.ref f_dor) = true)
    (a_ref : PySem.W.nsIn K mainGlobals "_law_refused" = some (some (.ref f_ref)))
    (l_ref : K.lookup f_ref = some ⟨oc_ref, od_ref, .func (PySem.W.fnOf "_law_refused" "_law_refused" (defArgs sRefused) (defBody sRefused) (defScope sRefused) .none kV_ref dc_ref pm_ref an_ref cd_ref ct_ref), sl_ref⟩)
    (c_ref : PySem.W.codeIn K cd_ref "_law_refused" = true)
    (k_ref : PySem.W.keepIn K (.ref f_ref) = true)
    (a_wro : PySem.W.nsIn K mainGlobals "_law_wrong_fact" = some (some (.ref f_wro)))
    (l_wro : K.lookup f_wro = some ⟨oc_wro, od_wro, .func (PySem.W.fnOf "_law_wrong_fact" "_law_wrong_fact" (defArgs sWrong) (defBody sWrong) (defScope sWrong) .none kV_wro dc_wro pm_wro an_wro cd_wro ct_wro), sl_wro⟩)
    (c_wro : PySem.W.codeIn K cd_wro "_law_wrong_fact" = true)
    (k_wro : PySem.W.keepIn K (.ref f_wro) = true)
    (a_law : PySem.W.nsIn K mainGlobals "law" = some (some (.ref f_law)))
    (l_law : K.lookup f_law = some ⟨oc_law, od_law, .func (PySem.W.fnOf "law" "law" (defArgs sLaw) (defBody sLaw) (defScope sLaw) .none kV_law dc_law pm_law an_law cd_law ct_law), sl_law⟩)
    (c_law : PySem.W.codeIn K cd_law "law" = true)
    (k_law : PySem.W.keepIn K (.ref f_law) = true)
    (z_len : PySem.W.nsIn K mainGlobals "len" = some none)
    (z_int : PySem.W.nsIn K mainGlobals "int" = some none)
    (z_tuple : PySem.W.nsIn K mainGlobals "tuple" = some none)
    (z_range : PySem.W.nsIn K mainGlobals "range" = some none)
    (z_list : PySem.W.nsIn K mainGlobals "list" = some none)
    (z_enumerate : PySem.W.nsIn K mainGlobals "enumerate" = some none)
    (z_isinstance : PySem.W.nsIn K mainGlobals "isinstance" = some none)
    (z_bool : PySem.W.nsIn K mainGlobals "bool" = some none)
    (z_all : PySem.W.nsIn K mainGlobals "all" = some none)
    (z_any : PySem.W.nsIn K mainGlobals "any" = some none)
    (z_min : PySem.W.nsIn K mainGlobals "min" = some none)
    (z_max : PySem.W.nsIn K mainGlobals "max" = some none)
    (z_sorted : PySem.W.nsIn K mainGlobals "sorted" = some none)
    (z_set : PySem.W.nsIn K mainGlobals "set" = some none)
    (z_super : PySem.W.nsIn K mainGlobals "super" = some none)
    (z_ValueError : PySem.W.nsIn K mainGlobals "ValueError" = some none)
    (tp : (l.prog.main.scope.names.lookup ("super" : Str)).isSome = false)
    (thr : PySem.W.nsIn K PySem.cStatics "thirdparty.any" = some none)
    (x_CE : K.lookup CE = some (excClassObj nm_CE qn_CE CE N_CE bs_CE [.ref CS, .type "ValueError", .type "Exception", .type "BaseException", .type "object"] true sn_CE su_CE ab_CE col_CE dd_CE m0_CE m1_CE m2_CE m3_CE m5_CE "ValueError.__new__"))
    (sa_CE : PySem.W.findIn K (.ref CE) "__setattr__" = some (some (.builtin "object.__setattr__")))
    (eb_CE : PySem.W.subIn K (.ref CE) (.type "BaseException") = some true)
    (ty_CE : PySem.W.typeIn K (.ref CE) = some (.type "type"))
    (kc_CE : PySem.W.keepIn K (.ref CE) = true)
    (ms_CE : PySem.W.mroIn K CE (.ref CE) = some true)
    (su_CE : PySem.W.ks_superIn K CE CE "__init__" = some (some (.builtin "ValueError.__init__")))
    (ve_CE : PySem.W.subIn K (.ref CE) (.type "ValueError") = some true)
    (ci_CE : PySem.W.isClsIn K CE = true)
    (a_CE : PySem.W.findIn K (.ref CE) "__init__" = some (some (.ref f_CE)))
    (t_CE : PySem.W.typeIn K (.ref f_CE) = some (.type "function"))
    (l_CE : K.lookup f_CE = some ⟨oc_CE, od_CE, .func (PySem.W.fnX "__init__" "BadWorld.__init__" (defArgs eE) (defBody eE) (Sup.scOf (defScope eE).names) [("__class__", cc_CE)] .none kV_CE dc_CE pm_CE an_CE (.ref cda_CE) ct_CE), sl_CE⟩)
    (c_CE : PySem.W.codeIn K (.ref cda_CE) "BadWorld.__init__" = true)
    (cd_CE : K.lookup cda_CE = some ⟨ccl_CE, ccd_CE, .fields vs_CE, ccs_CE⟩)
    (v2_CE : vs_CE[2]? = some (.str file_CE tf_CE))
    (pf_CE : ((l.prog.main.file : Str) == file_CE) = true)
    (hc_CE : K.lookup cc_CE = some ⟨cl_CE, cld_CE, .cell (some (.ref CE)), csl_CE⟩)
    (no_CE_index : PySem.W.findIn K (.ref CE) "index" = some none)
    (ga_CE : PySem.W.findIn K (.ref CE) "__getattribute__" = some (some (.builtin "BaseException.__getattribute__")))
    (gg_CE : PySem.W.findIn K (.ref CE) "__getattr__" = some none)
    (hd_CE : PySem.W.hasDictIn K CE = true)
    (ca_CE : PySem.W.findIn K (.ref CE) "__class__" = some (some (.builtin "object.__class__")))
    (mo_CE : PySem.W.mroIn K CE (.type "object") = some true)
    (g_MOST_THINGS : PySem.W.nsIn K mainGlobals "MOST_THINGS" = some (some (.int 9 t_MOST_THINGS)))
    (g_MOST_FACTS : PySem.W.nsIn K mainGlobals "MOST_FACTS" = some (some (.int 36 t_MOST_FACTS)))
    (eS : PySem.W.kitOne K (.ref CE) (.ref CS) = some true)
    (eV : PySem.W.kitOne K (.ref CE) (.type "ValueError") = some true)
    (eB : PySem.W.kitOne K (.ref CE) (.ref CB) = some false)
    (eE : PySem.W.exmOne K (.ref CE) (.ref CE) = some true)
    (kCW : PySem.W.kitOne K (.ref C) (.ref CW) = some true) :
    ∃ fd : FuncData, (∀ (s : Shared) (v : Value), BindsTo s fd ⟨[v], []⟩ [("script", v)]) ∧ ∀ base : Heap, K.In base → base.Ns mainGlobals mg → FnOk l.prog w K mg base (L2N.CX l.prog w) 8 fa fd ["script"] (mkSp K pLaw) := by
  have e := hfa.symm.trans (PySem.W.mg_of X G a_law)
  cases e
  have g_CS : mg "StepError" = some (.ref CS) := PySem.W.mg_of X G n_CS
  have g_CB : mg "BadWeb" = some (.ref CB) := PySem.W.mg_of X G n_CB
  have g_CE : mg "BadWorld" = some (.ref CE) := PySem.W.mg_of X G n_CE
  have g_CW : mg "World" = some (.ref CW) := PySem.W.mg_of X G n_CW
  have g_C : mg "Orders" = some (.ref C) := PySem.W.mg_of X G n_C
  have F_wi := fun_mk (st := wInit) l_wi c_wi k_wi
  have b_wi := F_wi.binds (ps := ["self", "size"]) fun _ _ _ _ _ _ us hl => match us, hl with | [_, _], _ => rfl
  have Cl_C : Cls K C := ⟨pg_C, hd_C, po_C, sa_C⟩
  have Is_C : IsC K C := ⟨Cl_C, ca_C, oc0, oc1, mo_C⟩
  have F_ans := fun_mk (st := oIsAnswer) l_ans c_ans k_ans
  have b_ans := F_ans.binds (ps := ["self", "setting"]) fun _ _ _ _ _ _ us hl => match us, hl with | [_, _], _ => rfl
  have F_chg := fun_mk (st := oIsChange) l_chg c_chg k_chg
  have b_chg := F_chg.binds (ps := ["self", "first", "second"]) fun _ _ _ _ _ _ us hl => match us, hl with | [_, _, _], _ => rfl
  have F_nxt := fun_mk (st := oNext) l_nxt c_nxt k_nxt
  have b_nxt := F_nxt.binds (ps := ["self", "setting"]) fun _ _ _ _ _ _ us hl => match us, hl with | [_, _], _ => rfl
  have F_blk := fun_mk (st := oBlocked) l_blk c_blk k_blk
  have b_blk := F_blk.binds (ps := ["self", "setting", "parts", "part"]) fun _ _ _ _ _ _ us hl => match us, hl with | [_, _, _, _], _ => rfl
  have F_unl := fun_mk (st := sUnlike) l_unl c_unl k_unl
  have b_unl := F_unl.binds (ps := ["first", "second"]) fun _ _ _ _ _ _ us hl => match us, hl with | [_, _], _ => rfl
  have F_spo := fun_mk (st := sSpotsOf) l_spo c_spo k_spo
  have b_spo := F_spo.binds (ps := ["setting"]) fun _ _ _ _ _ _ us hl => match us, hl with | [_], _ => rfl
  have F_exc := fun_mk (st := sExchanged) l_exc c_exc k_exc
  have b_exc := F_exc.binds (ps := ["setting", "spot"]) fun _ _ _ _ _ _ us hl => match us, hl with | [_, _], _ => rfl
  have F_prs := fun_mk (st := sUnlikePairs) l_prs c_prs k_prs
  have b_prs := F_prs.binds (ps := ["first", "second"]) fun _ _ _ _ _ _ us hl => match us, hl with | [_, _], _ => rfl
  have F_cell := fun_mk (st := sCell) l_cell c_cell k_cell
  have b_cell := F_cell.binds (ps := ["script", "k"]) fun _ _ _ _ _ _ us hl => match us, hl with | [_, _], _ => rfl
  have F_draw := fun_mk (st := sDraw) l_draw c_draw k_draw
  have b_draw := F_draw.binds (ps := ["cell", "bases"]) fun _ _ _ _ _ _ us hl => match us, hl with | [_, _], _ => rfl
  have F_int := fun_mk (st := sInt) l_int c_int k_int
  have b_int := F_int.binds (ps := ["actual", "expected"]) fun _ _ _ _ _ _ us hl => match us, hl with | [_, _], _ => rfl
  have F_tru := fun_mk (st := sTruth) l_tru c_tru k_tru
  have b_tru := F_tru.binds (ps := ["actual", "expected"]) fun _ _ _ _ _ _ us hl => match us, hl with | [_, _], _ => rfl
  have F_equ := fun_mk (st := sEqual) l_equ c_equ k_equ
  have b_equ := F_equ.binds (ps := ["actual", "expected"]) fun _ _ _ _ _ _ us hl => match us, hl with | [_, _], _ => rfl
  have F_ord := fun_mk (st := sOrder) l_ord c_ord k_ord
  have b_ord := F_ord.binds (ps := ["cell", "count"]) fun _ _ _ _ _ _ us hl => match us, hl with | [_, _], _ => rfl
  have F_spL := fun_mk (st := sSpots) l_spL c_spL k_spL
  have b_spL := F_spL.binds (ps := ["order"]) fun _ _ _ _ _ _ us hl => match us, hl with | [_], _ => rfl
  have F_fac := fun_mk (st := sFacts) l_fac c_fac k_fac
  have b_fac := F_fac.binds (ps := ["cell", "many", "order", "agree"]) fun _ _ _ _ _ _ us hl => match us, hl with | [_, _, _, _], _ => rfl
  have F_isO := fun_mk (st := sIsOrder) l_isO c_isO k_isO
  have b_isO := F_isO.binds (ps := ["setting", "count", "facts"]) fun _ _ _ _ _ _ us hl => match us, hl with | [_, _, _], _ => rfl
  have F_swp := fun_mk (st := sSwapped) l_swp c_swp k_swp
  have b_swp := F_swp.binds (ps := ["order", "k", "j"]) fun _ _ _ _ _ _ us hl => match us, hl with | [_, _, _], _ => rfl
  have F_chL := fun_mk (st := sIsChange) l_chL c_chL k_chL
  have b_chL := F_chL.binds (ps := ["first", "second", "count", "facts"]) fun _ _ _ _ _ _ us hl => match us, hl with | [_, _, _, _], _ => rfl
  have F_nxL := fun_mk (st := sNext) l_nxL c_nxL k_nxL
  have b_nxL := F_nxL.binds (ps := ["order", "count", "facts"]) fun _ _ _ _ _ _ us hl => match us, hl with | [_, _, _], _ => rfl
  have F_prL := fun_mk (st := sUnlikeL) l_prL c_prL k_prL
  have b_prL := F_prL.binds (ps := ["first", "second"]) fun _ _ _ _ _ _ us hl => match us, hl with | [_, _], _ => rfl
  have F_set := fun_mk (st := sSettings) l_set c_set k_set
  have b_set := F_set.binds (ps := ["order", "second", "at"]) fun _ _ _ _ _ _ us hl => match us, hl with | [_, _, _], _ => rfl
  have F_dor := fun_mk (st := sDoors) l_dor c_dor k_dor
  have b_dor := F_dor.binds (ps := ["world", "settings", "count", "facts"]) fun _ _ _ _ _ _ us hl => match us, hl with | [_, _, _, _], _ => rfl
  have F_ref := fun_mk (st := sRefused) l_ref c_ref k_ref
  have b_ref := F_ref.binds (ps := ["count", "facts", "index"]) fun _ _ _ _ _ _ us hl => match us, hl with | [_, _, _], _ => rfl
  have F_wro := fun_mk (st := sWrong) l_wro c_wro k_wro
  have b_wro := F_wro.binds (ps := ["count", "choice", "k"]) fun _ _ _ _ _ _ us hl => match us, hl with | [_, _, _], _ => rfl
  have F_law := fun_mk (st := sLaw) l_law c_law k_law
  have b_law := F_law.binds (ps := ["script"]) fun _ _ _ _ _ _ us hl => match us, hl with | [_], _ => rfl
  have m_len : mg "len" = none := PySem.W.mg_none_of X G z_len
  have m_int : mg "int" = none := PySem.W.mg_none_of X G z_int
  have m_tuple : mg "tuple" = none := PySem.W.mg_none_of X G z_tuple
  have m_range : mg "range" = none := PySem.W.mg_none_of X G z_range
  have m_list : mg "list" = none := PySem.W.mg_none_of X G z_list
  have m_enumerate : mg "enumerate" = none := PySem.W.mg_none_of X G z_enumerate
  have m_isinstance : mg "isinstance" = none := PySem.W.mg_none_of X G z_isinstance
  have m_bool : mg "bool" = none := PySem.W.mg_none_of X G z_bool
  have m_all : mg "all" = none := PySem.W.mg_none_of X G z_all
  have m_any : mg "any" = none := PySem.W.mg_none_of X G z_any
  have m_min : mg "min" = none := PySem.W.mg_none_of X G z_min
  have m_max : mg "max" = none := PySem.W.mg_none_of X G z_max
  have m_sorted : mg "sorted" = none := PySem.W.mg_none_of X G z_sorted
  have m_set : mg "set" = none := PySem.W.mg_none_of X G z_set
  have m_super : mg "super" = none := PySem.W.mg_none_of X G z_super
  have m_ValueError : mg "ValueError" = none := PySem.W.mg_none_of X G z_ValueError
  have Ef_CE : ErrF l.prog K mg CE cda_CE cc_CE := ⟨⟨⟨_, _, _, _, _, _, _, _, _, _, _, _, _, _, _, x_CE, by rfl⟩, sa_CE, eb_CE, ty_CE, kc_CE⟩, ms_CE, su_CE, ve_CE, ⟨_, _, _, _, _, _, cd_CE, v2_CE, pf_CE⟩, tp, m_super, ci_CE, thr, ⟨_, _, _, hc_CE⟩⟩
  have Xc_CE : XcE K CE := ⟨⟨ga_CE, gg_CE, eb_CE, hd_CE⟩, ci_CE, ca_CE, oc0, oc1, mo_CE⟩
  have X_CE : Sup.Ex1 l.prog K mg "BadWorld" "index" CE := err1 (txt := "not a world") Ef_CE g_CE a_CE t_CE l_CE c_CE (NdefX.nscope_by (by decide +kernel)) (by decide +kernel) ⟨_, _, _, _, _, _, _, _, _, _, _, fun env => ⟨_, rfl⟩, rfl⟩ ⟨_, rfl, rfl⟩ no_CE_index (fun us hl => match us, hl with | [_, _], _ => rfl)
  have m_MOST_THINGS : mg "MOST_THINGS" = some (.int 9 t_MOST_THINGS) := PySem.W.mg_of X G g_MOST_THINGS
  have m_MOST_FACTS : mg "MOST_FACTS" = some (.int 36 t_MOST_FACTS) := PySem.W.mg_of X G g_MOST_FACTS
  have S_oi : Sup.SupAt l.prog K mg f_oi cda_oi cc_oi C _ "self" := ⟨⟨_, _, _, l_oi⟩, ⟨_, rfl, rfl⟩, ⟨_, _, _, _, _, _, cd_oi, v2_oi, pf_oi⟩, tp, m_super, Option.isSome_iff_exists.mp ci_oi, thr⟩
  have SI_oi : Sup.SupI K C C f_wi := ⟨Option.isSome_iff_exists.mp ci_oi, ms_oi, su_oi, wt_oi, wf_oi⟩
  have T : Bi mg := ⟨m_len, m_int, m_tuple, m_range, m_list, m_enumerate, m_isinstance, m_bool, m_all, m_any, m_min, m_max, m_sorted, m_set, m_ValueError⟩
  have R : OrdT K C := ⟨Cl_C, no_C_size, no_C_count, no_C_facts⟩
  have Er : ErrO K mg CS CE CB := ⟨g_CS, g_CE, g_CB, m_ValueError, Xc_CE, no_CE_index, eS, eV, eB, eE⟩
  have Go : OrdG l.prog K mg C CE f_oi f_wi cda_oi cc_oi _ := ⟨S_oi, SI_oi, X_CE, ⟨_, m_MOST_THINGS⟩, ⟨_, m_MOST_FACTS⟩⟩
  refine ⟨PySem.W.fnOf "law" "law" (defArgs sLaw) (defBody sLaw) (defScope sLaw) .none kV_law dc_law pm_law an_law cd_law ct_law, fun s v => .of_eq rfl, fun base _ _ => ?_⟩
  have G_cell : FnG l.prog w K mg base "_law_cell" 1 ["script", "k"] pCell := ⟨_, _, ok_cell F_cell T, PySem.W.mg_of X G a_cell, k_cell, b_cell⟩
  have G_draw : FnG l.prog w K mg base "_law_draw" 1 ["cell", "bases"] pDraw := ⟨_, _, ok_draw F_draw T, PySem.W.mg_of X G a_draw, k_draw, b_draw⟩
  have G_int : FnG l.prog w K mg base "_law_int" 1 ["actual", "expected"] pInt := ⟨_, _, ok_int F_int T, PySem.W.mg_of X G a_int, k_int, b_int⟩
  have G_tru : FnG l.prog w K mg base "_law_truth" 1 ["actual", "expected"] pTruth := ⟨_, _, ok_truth F_tru T, PySem.W.mg_of X G a_tru, k_tru, b_tru⟩
  have G_equ : FnG l.prog w K mg base "_law_equal" 2 ["actual", "expected"] pEqual := ⟨_, _, ok_equal F_equ T G_int, PySem.W.mg_of X G a_equ, k_equ, b_equ⟩
  have H_int : FnGH l.prog w K mg base "_law_int" 1 ["actual", "expected"] pInt := ⟨_, _, ok_intH F_int T, PySem.W.mg_of X G a_int, k_int, b_int⟩
  have G_spo : FnG l.prog w K mg base "spots_of" 1 ["setting"] pSpots := ⟨_, _, ok_spotsOf F_spo T, PySem.W.mg_of X G a_spo, k_spo, b_spo⟩
  have G_spL : FnG l.prog w K mg base "_law_spots" 1 ["order"] pSpots := ⟨_, _, ok_spots F_spL T, PySem.W.mg_of X G a_spL, k_spL, b_spL⟩
  have G_swp : FnG l.prog w K mg base "_law_swapped" 1 ["order", "k", "j"] pSwap := ⟨_, _, ok_swapped F_swp T, PySem.W.mg_of X G a_swp, k_swp, b_swp⟩
  have G_exc : FnG l.prog w K mg base "exchanged" 1 ["setting", "spot"] pExch := ⟨_, _, ok_exchanged F_exc , PySem.W.mg_of X G a_exc, k_exc, b_exc⟩
  have G_unl : FnG l.prog w K mg base "unlike" 1 ["first", "second"] pUnlike := ⟨_, _, ok_unlike F_unl T, PySem.W.mg_of X G a_unl, k_unl, b_unl⟩
  have G_prs : FnG l.prog w K mg base "unlike_pairs" 2 ["first", "second"] pPairs := ⟨_, _, ok_pairs F_prs T G_spo, PySem.W.mg_of X G a_prs, k_prs, b_prs⟩
  have G_prL : FnG l.prog w K mg base "_law_unlike" 2 ["first", "second"] pPairs := ⟨_, _, ok_pairsL F_prL T G_spL, PySem.W.mg_of X G a_prL, k_prL, b_prL⟩
  have M_ans : MtG l.prog w K mg base C "is_answer" 2 ["self", "setting"] (pIsAns C) := ⟨_, _, ok_isAns F_ans T R G_spo, ⟨a_ans, i_ans, k_ans⟩, b_ans⟩
  have M_chg : MtG l.prog w K mg base C "is_change" 3 ["self", "first", "second"] (pIsChg C) := ⟨_, _, ok_isChg F_chg T R M_ans G_unl, ⟨a_chg, i_chg, k_chg⟩, b_chg⟩
  have M_nxt : MtG l.prog w K mg base C "next_answers" 3 ["self", "setting"] (pNext C) := ⟨_, _, ok_next F_nxt T R M_ans G_exc, ⟨a_nxt, i_nxt, k_nxt⟩, b_nxt⟩
  have M_blk : MtG l.prog w K mg base C "blocked" 1 ["self", "setting", "parts", "part"] (pBlocked C) := ⟨_, _, ok_blocked F_blk , ⟨a_blk, i_blk, k_blk⟩, b_blk⟩
  have M : ClG l.prog w K mg base "Orders" C 4 ["self", "count", "facts"] (pOrd C CE) := ⟨_, _, ok_oinit T R l_oi c_oi ⟨_, _, _, hc_oi⟩ Go (ok_winit F_wi R) b_wi, ⟨mk_C, a_oi, i_oi, kc_C⟩, g_C, .all fun us hl => match us, hl with | [_, _, _], _ => rfl⟩
  have G_isO : FnG l.prog w K mg base "_law_is_order" 2 ["setting", "count", "facts"] pIsOrd := ⟨_, _, ok_isOrd F_isO T G_spL, PySem.W.mg_of X G a_isO, k_isO, b_isO⟩
  have G_chL : FnG l.prog w K mg base "_law_is_change" 3 ["first", "second", "count", "facts"] pChgL := ⟨_, _, ok_chgL F_chL T G_isO G_swp, PySem.W.mg_of X G a_chL, k_chL, b_chL⟩
  have G_nxL : FnG l.prog w K mg base "_law_next" 3 ["order", "count", "facts"] pNextL := ⟨_, _, ok_nextL F_nxL T G_isO G_swp, PySem.W.mg_of X G a_nxL, k_nxL, b_nxL⟩
  have G_ord : FnG l.prog w K mg base "_law_order" 2 ["cell", "count"] pOrderL := ⟨_, _, ok_order F_ord T G_draw, PySem.W.mg_of X G a_ord, k_ord, b_ord⟩
  have G_fac : FnG l.prog w K mg base "_law_facts" 2 ["cell", "many", "order", "agree"] pFacts := ⟨_, _, ok_facts F_fac T G_draw G_spL, PySem.W.mg_of X G a_fac, k_fac, b_fac⟩
  have G_wro : FnG l.prog w K mg base "_law_wrong_fact" 1 ["count", "choice", "k"] pWrong := ⟨_, _, ok_wrong F_wro , PySem.W.mg_of X G a_wro, k_wro, b_wro⟩
  have G_ref : FnG l.prog w K mg base "_law_refused" 6 ["count", "facts", "index"] pRefused := ⟨_, _, ok_refused F_ref T Er M H_int, PySem.W.mg_of X G a_ref, k_ref, b_ref⟩
  have G_set : FnG l.prog w K mg base "_law_settings" 2 ["order", "second", "at"] pSets := ⟨_, _, ok_sets F_set T G_swp, PySem.W.mg_of X G a_set, k_set, b_set⟩
  have G_dor : FnG l.prog w K mg base "_law_doors_stand" 4 ["world", "settings", "count", "facts"] (pDoors C) := ⟨_, _, ok_doors F_dor T R ⟨M_ans, M_chg, M_nxt, M_blk, G_isO, G_chL, G_nxL, G_tru, G_equ⟩, PySem.W.mg_of X G a_dor, k_dor, b_dor⟩
  exact ok_law F_law T R ⟨G_cell, G_draw, G_ord, G_fac, M, G_int, G_equ, G_dor, G_set, G_prs, G_prL, G_wro, G_ref, g_CW, kCW, Is_C⟩
end K91

open PySem PySem.W PyProof.Rows in
set_option maxRecDepth 100000 in
set_option maxHeartbeats 0 in
theorem PySem.Challenge.cw_everystepstands_k91_orders_by_neighbours_holds : PySem.Challenge.rw_everystepstands_k91_orders_by_neighbours.Holds := by
  w_on; o_law; k_head; (case hw => w_witness2)
  k_fill
  refine Y.walk 8 ⟨rfl, by decide, by decide⟩ (l := PySem.Challenge.rw_everystepstands_k91_orders_by_neighbours) rfl rfl (fun w h Z => PySem.W.kIn_of Z) ?F
  case F =>
    intro w mg fa h KX G hmg
    refine' K91.all_mk KX G hmg ?n_CS ?n_CB ?n_CE ?n_CW ?n_C ?oc0 ?oc1 ?a_wi ?i_wi ?l_wi ?c_wi ?k_wi ?pg_C ?hd_C ?po_C ?sa_C ?kc_C ?mk_C ?ca_C ?mo_C ?no_C_size ?no_C_count ?no_C_facts ?a_ans ?i_ans ?l_ans ?c_ans ?k_ans ?a_chg ?i_chg ?l_chg ?c_chg ?k_chg ?a_nxt ?i_nxt ?l_nxt ?c_nxt ?k_nxt ?a_blk ?i_blk ?l_blk ?c_blk ?k_blk ?a_oi ?i_oi ?l_oi ?c_oi ?k_oi ?cd_oi ?v2_oi ?pf_oi ?hc_oi ?ci_oi ?ms_oi ?su_oi ?wt_oi ?wf_oi ?a_unl ?l_unl ?c_unl ?k_unl ?a_spo ?l_spo ?c_spo ?k_spo ?a_exc ?l_exc ?c_exc ?k_exc ?a_prs ?l_prs ?c_prs ?k_prs ?a_cell ?l_cell ?c_cell ?k_cell ?a_draw ?l_draw ?c_draw ?k_draw ?a_int ?l_int ?c_int ?k_int ?a_tru ?l_tru ?c_tru ?k_tru ?a_equ ?l_equ ?c_equ ?k_equ ?a_ord ?l_ord ?c_ord ?k_ord ?a_spL ?l_spL ?c_spL ?k_spL ?a_fac ?l_fac ?c_fac ?k_fac ?a_isO ?l_isO ?c_isO ?k_isO ?a_swp ?l_swp ?c_swp ?k_swp ?a_chL ?l_chL ?c_chL ?k_chL ?a_nxL ?l_nxL ?c_nxL ?k_nxL ?a_prL ?l_prL ?c_prL ?k_prL ?a_set ?l_set ?c_set ?k_set ?a_dor ?l_dor ?c_dor ?k_dor ?a_ref ?l_ref ?c_ref ?k_ref ?a_wro ?l_wro ?c_wro ?k_wro ?a_law ?l_law ?c_law ?k_law ?z_len ?z_int ?z_tuple ?z_range ?z_list ?z_enumerate ?z_isinstance ?z_bool ?z_all ?z_any ?z_min ?z_max ?z_sorted ?z_set ?z_super ?z_ValueError ?tp ?thr ?x_CE ?sa_CE ?eb_CE ?ty_CE ?kc_CE ?ms_CE ?su_CE ?ve_CE ?ci_CE ?a_CE ?t_CE ?l_CE ?c_CE ?cd_CE ?v2_CE ?pf_CE ?hc_CE ?no_CE_index ?ga_CE ?gg_CE ?hd_CE ?ca_CE ?mo_CE ?g_MOST_THINGS ?g_MOST_FACTS ?eS ?eV ?eB ?eE ?kCW
    (case n_CS => k_is)
    (case n_CB => k_is)
    (case n_CE => k_is)
    (case n_CW => k_is)
    (case n_C => k_is)
    (case oc0 => k_is)
    (case oc1 => k_is)
    (case a_wi => k_is)
    (case i_wi => k_is)
    (case l_wi => k_is)
    (case c_wi => k_is)
    (case k_wi => k_is)
    (case pg_C => k_is)
    (case hd_C => k_is)
    (case po_C => k_is)
    (case sa_C => k_is)
    (case kc_C => k_is)
    (case mk_C => k_is)
    (case ca_C => k_is)
    (case mo_C => k_is)
    (case no_C_size => k_is)
    (case no_C_count => k_is)
    (case no_C_facts => k_is)
    (case a_ans => k_is)
    (case i_ans => k_is)
    (case l_ans => k_is)
    (case c_ans => k_is)
    (case k_ans => k_is)
    (case a_chg => k_is)
    (case i_chg => k_is)
    (case l_chg => k_is)
    (case c_chg => k_is)
    (case k_chg => k_is)
    (case a_nxt => k_is)
    (case i_nxt => k_is)
    (case l_nxt => k_is)
    (case c_nxt => k_is)
    (case k_nxt => k_is)
    (case a_blk => k_is)
    (case i_blk => k_is)
    (case l_blk => k_is)
    (case c_blk => k_is)
    (case k_blk => k_is)
    (case a_oi => k_is)
    (case i_oi => k_is)
    (case l_oi => k_is)
    (case c_oi => k_is)
    (case k_oi => k_is)
    (case cd_oi => k_is)
    (case v2_oi => rfl)
    (case pf_oi => decide +kernel)
    (case hc_oi => k_is)
    (case ci_oi => k_is)
    (case ms_oi => k_is)
    (case su_oi => ks_is)
    (case wt_oi => k_is)
    (case wf_oi => k_is)
    (case a_unl => k_is)
    (case l_unl => k_is)
    (case c_unl => k_is)
    (case k_unl => k_is)
    (case a_spo => k_is)
    (case l_spo => k_is)
    (case c_spo => k_is)
    (case k_spo => k_is)
    (case a_exc => k_is)
    (case l_exc => k_is)
    (case c_exc => k_is)
    (case k_exc => k_is)
    (case a_prs => k_is)
    (case l_prs => k_is)
    (case c_prs => k_is)
    (case k_prs => k_is)
    (case a_cell => k_is)
    (case l_cell => k_is)
    (case c_cell => k_is)
    (case k_cell => k_is)
    (case a_draw => k_is)
    (case l_draw => k_is)
    (case c_draw => k_is)
    (case k_draw => k_is)
    (case a_int => k_is)
    (case l_int => k_is)
    (case c_int => k_is)
    (case k_int => k_is)
    (case a_tru => k_is)
    (case l_tru => k_is)
    (case c_tru => k_is)
    (case k_tru => k_is)
    (case a_equ => k_is)
    (case l_equ => k_is)
    (case c_equ => k_is)
    (case k_equ => k_is)
    (case a_ord => k_is)
    (case l_ord => k_is)
    (case c_ord => k_is)
    (case k_ord => k_is)
    (case a_spL => k_is)
    (case l_spL => k_is)
    (case c_spL => k_is)
    (case k_spL => k_is)
    (case a_fac => k_is)
    (case l_fac => k_is)
    (case c_fac => k_is)
    (case k_fac => k_is)
    (case a_isO => k_is)
    (case l_isO => k_is)
    (case c_isO => k_is)
    (case k_isO => k_is)
    (case a_swp => k_is)
    (case l_swp => k_is)
    (case c_swp => k_is)
    (case k_swp => k_is)
    (case a_chL => k_is)
    (case l_chL => k_is)
    (case c_chL => k_is)
    (case k_chL => k_is)
    (case a_nxL => k_is)
    (case l_nxL => k_is)
    (case c_nxL => k_is)
    (case k_nxL => k_is)
    (case a_prL => k_is)
    (case l_prL => k_is)
    (case c_prL => k_is)
    (case k_prL => k_is)
    (case a_set => k_is)
    (case l_set => k_is)
    (case c_set => k_is)
    (case k_set => k_is)
    (case a_dor => k_is)
    (case l_dor => k_is)
    (case c_dor => k_is)
    (case k_dor => k_is)
    (case a_ref => k_is)
    (case l_ref => k_is)
    (case c_ref => k_is)
    (case k_ref => k_is)
    (case a_wro => k_is)
    (case l_wro => k_is)
    (case c_wro => k_is)
    (case k_wro => k_is)
    (case a_law => k_is)
    (case l_law => k_is)
    (case c_law => k_is)
    (case k_law => k_is)
    (case z_len => k_is)
    (case z_int => k_is)
    (case z_tuple => k_is)
    (case z_range => k_is)
    (case z_list => k_is)
    (case z_enumerate => k_is)
    (case z_isinstance => k_is)
    (case z_bool => k_is)
    (case z_all => k_is)
    (case z_any => k_is)
    (case z_min => k_is)
    (case z_max => k_is)
    (case z_sorted => k_is)
    (case z_set => k_is)
    (case z_super => k_is)
    (case z_ValueError => k_is)
    (case tp => decide +kernel)
    (case thr => k_is)
    (case x_CE => k_is)
    (case sa_CE => k_is)
    (case eb_CE => k_is)
    (case ty_CE => k_is)
    (case kc_CE => k_is)
    (case ms_CE => k_is)
    (case su_CE => ks_is)
    (case ve_CE => k_is)
    (case ci_CE => k_is)
    (case a_CE => k_is)
    (case t_CE => k_is)
    (case l_CE => k_is)
    (case c_CE => k_is)
    (case cd_CE => k_is)
    (case v2_CE => rfl)
    (case pf_CE => decide +kernel)
    (case hc_CE => k_is)
    (case no_CE_index => k_is)
    (case ga_CE => k_is)
    (case gg_CE => k_is)
    (case hd_CE => k_is)
    (case ca_CE => k_is)
    (case mo_CE => k_is)
    (case g_MOST_THINGS => k_is)
    (case g_MOST_FACTS => k_is)
    (case eS => kit_is)
    (case eV => kit_is)
    (case eB => kit_is)
    (case eE => kts_exm)
    (case kCW => kit_is)

