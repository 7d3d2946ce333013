import PyProof.Rows.All
import Wide.All
import OpenK.AllK
import Wide.FinOn
import HandS.ExcInit
import HandS.Nested
import KE.KExcSuper
import HandS.ForMost
import HandS.ForExc
import HandS.IsInst
import HandS.CallSlots
import HandS.ExcCtx
import HandS.TupAny
import HandS.Deep
import HandS.Wide
import HandS.WideBits
import HandS.Text
import HandS.Conv
import HandS.Zip
import HandS.TupMul
import HandS.SortInts
import HandS.RevRange
import HandS.Defaults
import KE.GoesEnum
import KE.GoesMore
import HandS.More
import HandS.Dict
import HandS.Small
import HandS.Style
import HandS.SortKw
import HandS.Star
import HandS.ExcIs
import HandS.ExcField
import HandS.Rev
import HandS.HotCalls
import HandS.Iter
import HandS.Strs
import KE.DatumOrd
import HandS.ExcOwn
import PyProof.ExcBaseAll.ValueError
import HandS.TupSets
import KE.KDictDisplayH
import PyProof.ListRange
import PyProof.CollectIter
import PyProof.FactsAll.range_iterator_1
import HandS.Call
import KE.KTupSum
import HandS.List
import HandS.Gcd
import HandS.EndBits
import HandS.Codes
import PySem.Challenge.RW_tumbler_k01_cycles_and_signs
set_option Elab.async false
set_option linter.all false
set_option maxRecDepth 100000
set_option maxHeartbeats 2000000
/-! super().__init__(text) in an own error's __init__, the error over an own base over ValueError -/
namespace Rf
open PySem PySem.Spec PyProof.Rows L2 NdefX
section
variable {X : Cx} {pins : List (Addr × Obj)} {σ : L2.St} {H : Hp} {s : Shared} {E : Value → Shared → Prop} {a C D u so : Addr}
/-- the wrapper ValueError.__init__ bound to the error at a, called -/
theorem mw_call {us : List Value} {Q : Value → Shared → Prop} (T : OexC X.K C) (I : Inv X pins σ H s) (e : H a = some (exo a C none)) (hu : s.heap.get? u = some (PySem.W.kxs_mw "ValueError.__init__" a)) (hl : us.length ≤ sizeLine) (h : ∀ s', Inv X pins σ H s' → Q .none s') :
    wpAny (model X.prog X.w) X.A (call (.ref u) us) Q E s := by
  obtain ⟨nm, q, N, bs, bm, sn, sub, ab, col, dd, k0, k1, k2, k3, k5, hC, hbm⟩ := T.cls
  obtain ⟨t1, ho⟩ := exo_at I.hok e
  have hCh := I.kIn _ _ hC
  obtain ⟨hp, g, d, t, os⟩ := s
  refine wpAny_call (codeAny_of_tree ?_)
  show wpAny _ X.A.in1 (callAny (.ref u) ⟨us, []⟩) _ _ _
  simp only [callAny]
  refine wpAny_bind (wpAny_load hu ?_)
  simp only [PySem.W.kxs_mw, show (Value.type "method-wrapper" == Value.type "method" || Value.type "method-wrapper" == Value.type "builtin_function_or_method" || Value.type "method-wrapper" == Value.type "method-wrapper") = true by decide, if_true]
  refine PySem.W.KFB.if_so (by decide) ?_
  refine wpAny_bind (PySem.W.check_bound_init F.excBase_ValueError.toExcCallFacts hCh ho rfl ?_)
  refine wpAny_bind (wpAny_pure (wpAny_pure ?_))
  refine ⟨plainId_quiet F.excBase_ValueError.init.plain _, codeAny_builtin F.excBase_ValueError.initEntry ?_⟩
  refine PySem.W.exc_init_tree (cls := .ref C) (t0 := t1) (dv := none) (c2 := .none) (c3 := .none) (b4 := .bool false) ho hl fun h' k hx _ => ?_
  have J := I.write (t' := t) (x := a) (e := a) (o := exo a C none) (by rw [e]; exact True.intro) (.inl rfl) k ⟨_, hx⟩ (exo_ok hx)
  have eu : upd H a (exo a C none) = H := by
    funext b
    by_cases hb : b = a
    · rw [hb, upd_same, e]
    · rw [upd_ne hb]
  rw [eu] at J
  exact h _ J
/-- super(D, a).__init__ -/
theorem sup_method {pl : Sem Bool} {Q : Value × List Value → Shared → Prop} (I : Inv X pins σ H s) (e : H a = some (exo a C none)) (hso : s.heap.get? so = some (PySem.W.ks_superObj D a C)) (hno : PySem.W.nsIn X.K cStatics "thirdparty.any" = some none)
    (hm : PySem.W.ks_superIn X.K C D "__init__" = some (some (.builtin "ValueError.__init__"))) (hB : PySem.W.subIn X.K (.ref C) (.type "ValueError") = some true)
    (h : ∀ u s', Inv X pins σ H s' → s'.heap.get? u = some (PySem.W.kxs_mw "ValueError.__init__" a) → Q (.ref u, []) s') : wpAny (model X.prog X.w) X.A (getMethod (.ref so) "__init__" pl) Q E s := by
  have XK := I.kIn
  obtain ⟨t1, ho⟩ := exo_at I.hok e
  have IA : PySem.W.InstAt s.heap a { cls := .ref C, dict := none, data := .fields #[.ref t1, .none, .none, .none, .bool false, .none] } C none := ⟨ho, rfl, rfl, trivial⟩
  have hI : PySem.W.Looks (model X.prog X.w) s.heap (isInstance (.ref a) (.type "ValueError")) true := IA.type.andThen (PySem.W.looks_subIn XK hB)
  obtain ⟨hp, g, d, t, os⟩ := s
  cases hc : PySem.W.clsIn X.K C with
  | none => unfold PySem.W.ks_superIn at hm; rw [hc] at hm; cases hm
  | some cd =>
    unfold PySem.W.ks_superIn at hm
    rw [hc] at hm
    refine PySem.W.kxs_getMethod PySem.W.kxs_ValueError hso (PySem.W.looks_opaque XK hno) (l₀ := cd.mro) ?_ rfl XK hm hI (PySem.W.ks_ne XK IA hc) (by decide) ?_
    · exact fun A Q E s k q => wpAny_bind ((PySem.W.looks_clsIn XK hc) A _ E s k (wpAny_pure q))
    · exact h _ _ (I.kept (t' := t + 1) fun b o q => Heap.get?_push_of_some _ q) (Heap.get?_push_at rfl rfl)
/-- what the def's written part says -/
structure SupAt (X : Cx) (f cda cc D : Addr) (slf : Str) : Prop where
  fu : X.env.func = some f
  co : X.env.code = .ref cda
  cl : X.env.cells.lookup ("__class__" : Str) = some cc
  ks : X.env.kindOf ("super" : Str) = some .globalImplicit
  kc : X.env.kindOf ("__class__" : Str) = some .free
  ka : X.env.kindOf slf = some .local
  hf : ∃ oc od fd osl ar, X.K.lookup f = some ⟨oc, od, .func fd, osl⟩ ∧ (fd.params.posonlyargs ++ fd.params.args).head? = some ar ∧ ar.arg = slf
  hc : ∃ ccl cdd vs ccs file tf, X.K.lookup cda = some ⟨ccl, cdd, .fields vs, ccs⟩ ∧ vs[2]? = some (.str file tf) ∧ ((X.prog.main.file : Str) == file) = true
  hcell : ∃ cl cld csl, X.K.lookup cc = some ⟨cl, cld, .cell (some (.ref D)), csl⟩
  hD : ∃ cdD, PySem.W.clsIn X.K D = some cdD
  htop : (X.prog.main.scope.names.lookup ("super" : Str)).isSome = false
  hm : X.mg "super" = none
theorem sup_base {body : List Stmt} {p0 p1 : Pos} {whole : Sem Value} {f cda cc : Addr} {slf : Str} {Q : Value → Shared → Prop} (S : SupAt X f cda cc D slf) (I : Inv X pins σ H s) (e : H a = some (exo a C none)) (hN : X.N[0]? = some slf) (hσ : σ[0]? = some (some (.ref a)))
    (hsub : PySem.W.mroIn X.K C (.ref D) = some true) (h : ∀ so s', Inv X pins σ H s' → s'.heap.get? so = some (PySem.W.ks_superObj D a C) → Q (.ref so) s') :
    _root_.PySem.wpAt (model X.prog X.w) X.A (.func body X.env) (attributeBase (.Call (.Name "super" p0) [] [] p1) "__init__" X.env whole) Q E s := by
  have XK := I.kIn
  obtain ⟨oc, od, fd, osl, ar, hf, hp, har⟩ := S.hf
  obtain ⟨ccl, cdd, vs, ccs, file, tf, hcode, hvs, hfile⟩ := S.hc
  obtain ⟨cl, cld, csl, hcell⟩ := S.hcell
  obtain ⟨cdD, hD⟩ := S.hD
  obtain ⟨t1, ho⟩ := exo_at I.hok e
  obtain ⟨oD, hD1, hD2⟩ : ∃ oD, s.heap.get? D = some oD ∧ oD.data = .cls cdD := by
    unfold PySem.W.clsIn at hD
    split at hD
    · rename_i c d cd' sl ho
      cases hD
      exact ⟨_, XK _ _ ho, rfl⟩
    · cases hD
  obtain ⟨m, hns, hloc⟩ := I.loc
  obtain ⟨u, ru, lk⟩ := hloc 0 slf (.ref a) hN hσ (.inl S.ka)
  obtain rfl : u = Value.ref a := ru
  have hv : m slf = some (.ref a) := by
    rcases lk with ⟨_, q⟩ | ⟨q | q, _⟩
    · exact q
    · rw [S.ka] at q; cases q
    · rw [S.ka] at q; cases q
  obtain ⟨mb, h1, h2⟩ := I.mod.blt
  refine PySem.ks_wpAt_super_base (env := X.env) S.ks S.kc (by decide) S.fu (XK _ _ hf) rfl hp S.co (XK _ _ hcode) rfl hvs hfile S.htop ?_
  rw [har]
  refine PySem.W.ks_loadName_global I.ok.kind S.ks (Calls.loadGlobal_builtin (by rw [I.ok.glob]; exact I.mod.glob.keeps I.bk) S.hm (by rw [I.ok.blt]; exact h1.keeps I.bk) ((h2 "super" (by decide)).trans (show bootBuiltins "super" = some (.type "super") by decide +kernel)) ⟨rfl, ?_⟩)
  refine wpAny_loadName_free I.ok.kind S.kc S.cl ⟨_, XK _ _ hcell, rfl⟩ ?_
  refine wpAny_loadName_local I.ok.kind S.ka hns hv ?_
  refine PySem.ks_wpAny_isType_cls hD1 hD2 ⟨rfl, ?_⟩
  obtain ⟨hp', g, d, t, os⟩ := s
  refine PySem.ks_wpAny_call_super hD1 hD2 ho rfl (fun c z => by cases z) (PySem.W.looks_mroIn XK hsub) (fun h' q k => ?_)
  exact h _ _ (I.kept (t' := t) k) q
theorem sup_stmt {pl : Sem Bool} {body : List Stmt} {p0 p1 p2 p3 p4 p5 : Pos} {txt : Str} {kk : Nat} {f cda cc : Addr} {slf : Str} {Q : Flow → Shared → Prop} (S : SupAt X f cda cc D slf) (T : OexC X.K C) (I : Inv X pins σ H s) (e : H a = some (exo a C none)) (hN : X.N[0]? = some slf) (hσ : σ[0]? = some (some (.ref a)))
    (hsub : PySem.W.mroIn X.K C (.ref D) = some true) (hno : PySem.W.nsIn X.K cStatics "thirdparty.any" = some none) (hm : PySem.W.ks_superIn X.K C D "__init__" = some (some (.builtin "ValueError.__init__"))) (hB : PySem.W.subIn X.K (.ref C) (.type "ValueError") = some true)
    (h : ∀ s', Inv X pins σ H s' → Q .next s')
    (he : eval (.Call (.Attribute (.Call (.Name "super" p0) [] [] p1) "__init__" p2) [.Constant (.str txt) kk p5] [] p3) X.env = (do
      let ov ← attributeBase (.Call (.Name "super" p0) [] [] p1) "__init__" X.env (eval (.Call (.Name "super" p0) [] [] p1) X.env)
      standAt p2.atName
      let (f, first) ← holding [ov] (getMethod ov "__init__" pl)
      callWith p3 f first (backTo p3 (starEach [.Constant (.str txt) kk p5] X.env)) []) := by rfl)
    (hi : interactive X.env = false := by rfl) (hs : swapsWith (.Call (.Attribute (.Call (.Name "super" p0) [] [] p1) "__init__" p2) [.Constant (.str txt) kk p5] [] p3) none p4.line X.env = pure false := by rfl) :
    _root_.PySem.wpAt (model X.prog X.w) X.A (.func body X.env) (exec (.Expr (.Call (.Attribute (.Call (.Name "super" p0) [] [] p1) "__init__" p2) [.Constant (.str txt) kk p5] [] p3) p4) X.env) Q E s := by
  refine PySem.ks_wpAt_Expr_any ?_ hi hs
  refine PySem.ks_wpAt_MethodCall ?_ he
  refine sup_base S I e hN hσ hsub fun so s1 I1 hso => ?_
  refine sup_method I1 e hso hno hm hB fun u s2 I2 hu => ?_
  refine PySem.W.kxs_callWith (i := "ValueError.__init__") (x := a) rfl ?_
  refine Calls.evalArgs_plain ?_
  refine Calls.spliced_cons ?_
  refine wpAny_Constant_str (k := kk) (pos := p5) ?_
  refine Calls.spliced_nil ⟨hu, ?_⟩
  exact mw_call T (I2.tok _) e hu (by rw [sizeLine_eq]; simp) fun s' I3 => h s' I3
end
/-- what the written part says of an __init__ whose first statement is super().__init__(text) -/
structure SupK (P : Program) (K : PySem.W.Frag) (mg : Str → Option Value) (F : NF) (f cc D : Addr) (slf : Str) : Prop where
  cl : F.cl = [(("__class__" : Str), cc)]
  ks : F.scope.names.lookup ("super" : Str) = some .globalImplicit
  kc : F.scope.names.lookup ("__class__" : Str) = some .free
  ka : F.scope.names.lookup slf = some .local
  par : ∃ ar, (F.params.posonlyargs ++ F.params.args).head? = some ar ∧ ar.arg = slf
  hc : ∃ ccl cdd vs ccs file tf, K.lookup F.c = some ⟨ccl, cdd, .fields vs, ccs⟩ ∧ vs[2]? = some (.str file tf) ∧ ((P.main.file : Str) == file) = true
  hcell : ∃ cl cld csl, K.lookup cc = some ⟨cl, cld, .cell (some (.ref D)), csl⟩
  hD : ∃ cdD, PySem.W.clsIn K D = some cdD
  htop : (P.main.scope.names.lookup ("super" : Str)).isSome = false
  hm : mg "super" = none
  hcd : PySem.W.codeIn K (.ref F.c) F.qual = true
/-- what it says of the class that is made -/
structure SupC (K : PySem.W.Frag) (C D : Addr) : Prop where
  ox : OexC K C
  sub : PySem.W.mroIn K C (.ref D) = some true
  sm : PySem.W.ks_superIn K C D "__init__" = some (some (.builtin "ValueError.__init__"))
  ve : PySem.W.subIn K (.ref C) (.type "ValueError") = some true
section
variable {CX : CXT} {P : Program} {w : World} {K : PySem.W.Frag} {mg : Str → Option Value} {base : Heap} {N ps : List Str} {F : NF} {f cc D : Addr} {k : Nat} {sp : Sp} {slf : Str} {doc pm ctv oc : Value} {od : Option Addr} {osl : Array (Option Value)}
theorem fn_super {pl : Sem Bool} {p0 p1 p2 p3 p4 p5 : Pos} {txt : Str} {kk : Nat} {rest : List Stmt} (lk : K.lookup f = some ⟨oc, od, .func (F.fd doc pm ctv), osl⟩) (W : SupK P K mg F f cc D slf) (S : NScope N ps ["__class__"] F.scope) (h0 : N[0]? = some slf) (hno : PySem.W.nsIn K cStatics "thirdparty.any" = some none)
    (hbody : F.body = .Expr (.Call (.Attribute (.Call (.Name "super" p0) [] [] p1) "__init__" p2) [.Constant (.str txt) kk p5] [] p3) p4 :: rest) (len : ∀ vs H Q E, sp vs H Q E → vs.length = ps.length)
    (hsp : ∀ vs H Q E, sp vs H Q E → ∃ a C ws, vs = .ref a :: ws ∧ SupC K C D ∧ H a = some (exo a C none))
    (he : ∀ L : Addr, eval (.Call (.Attribute (.Call (.Name "super" p0) [] [] p1) "__init__" p2) [.Constant (.str txt) kk p5] [] p3) (envF F f L) = (do
      let ov ← attributeBase (.Call (.Name "super" p0) [] [] p1) "__init__" (envF F f L) (eval (.Call (.Name "super" p0) [] [] p1) (envF F f L))
      standAt p2.atName
      let (f', first) ← holding [ov] (getMethod ov "__init__" pl)
      callWith p3 f' first (backTo p3 (starEach [.Constant (.str txt) kk p5] (envF F f L))) []))
    (hin0 : ∀ L : Addr, interactive (envF F f L) = false)
    (hs : ∀ L : Addr, swapsWith (.Call (.Attribute (.Call (.Name "super" p0) [] [] p1) "__init__" p2) [.Constant (.str txt) kk p5] [] p3) none p4.line (envF F f L) = pure false)
    (hrest : ∀ (A : Around) (outer : List Env) (s : Shared) (H : Hp) (vs : List V) (Q : VK) (E : XK), Room k (A.deeper (envF F f s.heap.objs.size)) → sp vs H Q E →
      ∃ t, PSs (ncx CX P w K mg base N F f A outer s H E) rest t ∧ t { nx := fun _ H' => Q .non H', rt := Q } (startF N vs [none]) H) :
    FnOk P w K mg base CX (k + 1) f (F.fd doc pm ctv) ps sp := by
  refine ⟨len, fun A outer s H args us vs Q E hr e0 hb r hs0 => ?_⟩
  have hl := len _ _ _ _ hs0
  have KX : K.In s.heap := e0.mod.kin.keeps fun b o e => (e0.bs b o e).1
  have lim : s.heap.NoLimit := e0.mod.nolimit.keeps fun b o e => (e0.bs b o e).1
  obtain ⟨a, C, ws, rfl, SC, ea⟩ := hsp _ _ _ _ hs0
  obtain ⟨cl0, cld, csl, hcell⟩ := W.hcell
  have CA : CellsAt F.cl ["__class__"] [none] s.heap H := by
    rw [W.cl]
    have one : ∀ {y : Str} {c : Addr}, [(("__class__" : Str), cc)].lookup y = some c → y = "__class__" ∧ c = cc := fun {y c} q => by
      have := PySem.mem_of_lookup q
      simpa using this
    refine ⟨rfl, fun y c q => ?_, fun x y c q1 q2 => ?_, fun i y q => ?_⟩
    · obtain ⟨rfl, rfl⟩ := one q
      exact ⟨(e0.bs _ _ (e0.mod.kin _ _ hcell)).2, _, _, KX _ _ hcell, rfl⟩
    · rw [(one q1).1, (one q2).1]
    · cases i with
      | zero =>
        have : y = "__class__" := by simpa using q.symm
        subst this
        exact ⟨cc, by simp [List.lookup], fun v z => by simp at z⟩
      | succ i => simp at q
  refine PySem.ks_codeAny_call_defAt (fd := F.fd doc pm ctv) (body := F.body) (binds := ps.zip us) hr.depth (KX _ _ lk) rfl lim (PySem.W.codeRec_of KX W.hcd) rfl hb S.nocell (fun ⟨n, v⟩ hy => S.par n (List.of_mem_zip hy).1) (fun h₀ hns kp => ?_) S.co S.gen S.kind
  have I : Inv (ncx CX P w K mg base N F f A outer s H E) [] (startF N (.ref a :: ws) [none]) H { s with heap := h₀, toks := s.toks + (ps.zip us).length } := inv_startN S hr.hd e0 hl r CA hns kp
  obtain ⟨t, ht, hq⟩ := hrest A outer s H (.ref a :: ws) Q E (hr.deeper _) hs0
  have SA : SupAt (ncx CX P w K mg base N F f A outer s H E) f F.c cc D slf := by
    obtain ⟨ar, p1, p2⟩ := W.par
    refine ⟨rfl, rfl, ?_, W.ks, W.kc, W.ka, ⟨_, _, _, _, ar, lk, p1, p2⟩, W.hc, W.hcell, W.hD, W.htop, W.hm⟩
    show F.cl.lookup _ = _
    rw [W.cl]; simp [List.lookup]
  show _root_.PySem.wpAt (model P w) (A.deeper (envF F f s.heap.objs.size)) (.func F.body (envF F f s.heap.objs.size)) (execs F.body (envF F f s.heap.objs.size)) _ _ _
  rw [hbody]
  refine PySem.ks_wpAt_execs_cons ?_
  refine sup_stmt (X := ncx CX P w K mg base N F f A outer s H E) SA SC.ox I ea h0 rfl SC.sub hno SC.sm SC.ve (fun s' J => ?_) (he _) (hin0 _) (hs _)
  refine PySem.wpAt_of_wpAny ?_
  refine wpAny_mono (ht.run [] s' _ H _ J hq) (fun fl s' hs => ?_) fun e s' hs => hs
  have fin : ∀ {σ' : L2.St} {H' : Hp} {v : V} {u : Value}, Inv (ncx CX P w K mg base N F f A outer s H E) [] σ' H' s' → L2.RelV v u → Q v H' → CE outer P w H s Q u s' :=
    fun {σ' H' v u} J rv q => ⟨v, H', J.os, J.bare, J.base, J.hok, rv, q⟩
  cases fl with
  | ret u =>
    obtain ⟨v, σ', H', J, rv, q⟩ := hs
    exact fin J rv q
  | next =>
    obtain ⟨σ', H', J, q⟩ := hs
    exact fin (v := V.non) (u := Value.none) J rfl q
  | brk =>
    obtain ⟨_, _, _, q⟩ := hs
    exact False.elim q
  | cont =>
    obtain ⟨_, _, _, q⟩ := hs
    exact False.elim q
end
end Rf

set_option maxHeartbeats 1000000
/-! A layer over HandS: plain data D, an abstract heap of lists and dicts by number, and for each construct a plain Lean function. -/
namespace Rf
open PySem PySem.Spec PyProof.Rows L2

/-- a value as plain data; `ref i`: the i-th thing of the abstract heap; `rol`: a list that is only read -/
inductive D where
  | non | bl (b : Bool) | int (i : Int) | str (x : Str) | ty (n : String) | tup (ds : List D) | rol (ds : List D) | kt (ds : List D) | ref (i : Nat)

inductive AO where
  | lst (ds : List D)
  | dK (kvs : List (Key × D))
  | dT (kvs : List (List Key × D))
  | lk (kvs : List (Key × D)) (od : Obj) (ws : List (Key × V))
abbrev AH := List AO
abbrev AE := List (Option D)

/-- what an expression ends in -/
inductive ER where
  | ok (d : D) (h : AH)
  | exc (c : Str) (fs : List (Str × D)) (h : AH)
  | stuck
/-- what a statement ends in -/
inductive SR where
  | nx (e : AE) (h : AH)
  | rt (d : D) (h : AH)
  | bk (e : AE) (h : AH)
  | ct (e : AE) (h : AH)
  | exc (c : Str) (fs : List (Str × D)) (e : AE) (h : AH)
  | stuck
/-- what a list of expressions ends in -/
inductive LR where
  | ok (ds : List D) (h : AH)
  | exc (c : Str) (fs : List (Str × D)) (h : AH)
  | stuck

/-- a list that nobody writes -/
def RoL (K : PySem.W.Frag) (H : Hp) (a : Addr) (vs : List V) : Prop :=
  (∃ o, H a = some (.frz o (.lst vs))) ∨ ∃ (o : Obj) (its : Array Value) (n : Nat), K.lookup a = some o ∧ o.cls = .type "list" ∧ o.dict = none ∧ o.data = .seq its n ∧ its.size ≤ sizeLine ∧ Vals vs its.toList
theorem RoL.sq {K : PySem.W.Frag} {H : Hp} {a : Addr} {vs : List V} (h : RoL K H a vs) : SqL K H a vs := by
  rcases h with ⟨o, e⟩ | h
  · exact .inl (.inr ⟨o, e⟩)
  · exact .inr h

/-- a tuple whose object is known -/
def KtL (H : Hp) (a : Addr) (vs : List V) : Prop := ∃ o, H a = some (.frz o (.tup vs)) ∧ o.dict = none
theorem KtL.sq {K : PySem.W.Frag} {H : Hp} {a : Addr} {vs : List V} (h : KtL H a vs) : SqT K H a vs := by
  obtain ⟨o, e, _⟩ := h
  exact .inl (.inr ⟨o, e⟩)
/-- a tuple, its object known or not -/
def TpL (H : Hp) (a : Addr) (vs : List V) : Prop := H a = some (.tup vs) ∨ KtL H a vs
mutual
def RD (K : PySem.W.Frag) (ι : Nat → Addr) (n : Nat) (H : Hp) : D → V → Prop
  | .non, v => v = .non
  | .bl b, v => v = .bl b
  | .int i, v => v = .int i
  | .str x, v => v = .str x
  | .ty s, v => v = .ty s
  | .tup ds, v => ∃ a vs, v = .ref a ∧ TpL H a vs ∧ RDs K ι n H ds vs
  | .rol ds, v => ∃ a vs, v = .ref a ∧ RoL K H a vs ∧ RDs K ι n H ds vs
  | .kt ds, v => ∃ a vs, v = .ref a ∧ KtL H a vs ∧ RDs K ι n H ds vs
  | .ref i, v => i < n ∧ v = .ref (ι i)
def RDs (K : PySem.W.Frag) (ι : Nat → Addr) (n : Nat) (H : Hp) : List D → List V → Prop
  | [], vs => vs = []
  | d :: ds, vs => ∃ v r, vs = v :: r ∧ RD K ι n H d v ∧ RDs K ι n H ds r
end
def RO (K : PySem.W.Frag) (ι : Nat → Addr) (n : Nat) (H : Hp) : AO → Addr → Prop
  | .lst ds, a => ∃ vs, H a = some (.lst vs) ∧ RDs K ι n H ds vs
  | .dK kvs, a => ∃ ws, H a = some (.dK ws) ∧ kvs.map (·.1) = ws.map (·.1) ∧ RDs K ι n H (kvs.map (·.2)) (ws.map (·.2))
  | .dT kvs, a => ∃ ws, H a = some (.dT ws) ∧ kvs.map (·.1) = ws.map (·.1) ∧ RDs K ι n H (kvs.map (·.2)) (ws.map (·.2))
  | .lk kvs od ws, a => H a = some (.frz od (.dK ws)) ∧ kvs.map (·.1) = ws.map (·.1) ∧ RDs K ι n H (kvs.map (·.2)) (ws.map (·.2))
/-- may be tracked: written, or a locked dict -/
def Mu : Option HO → Prop
  | some (.lst _) => True
  | some (.dK _) => True
  | some (.dT _) => True
  | some (.frz _ (.dK _)) => True
  | _ => False

structure Rel (K : PySem.W.Frag) (ι : Nat → Addr) (h : AH) (H : Hp) : Prop where
  inj : ∀ i j, i < h.length → j < h.length → ι i = ι j → i = j
  ob : ∀ i o, h[i]? = some o → RO K ι h.length H o (ι i)
structure Ext (ι : Nat → Addr) (n : Nat) (H : Hp) (ι' : Nat → Addr) (n' : Nat) (H' : Hp) : Prop where
  le : n ≤ n'
  ag : ∀ i, i < n → ι' i = ι i
  nw : ∀ i, n ≤ i → i < n' → H (ι' i) = none
  fr : ∀ b o, H b = some o → (∀ i, i < n → ι i ≠ b) → H' b = some o
  st : ∀ b, H' b = none → H b = none
section
variable {K : PySem.W.Frag} {ι ι' ι2 : Nat → Addr} {n n' n2 : Nat} {H H' H2 : Hp} {h h' : AH} {d : D} {ds es : List D} {v : V} {vs ws : List V} {a : Addr} {i : Nat} {o : AO}
theorem Ext.refl : Ext ι n H ι n H := ⟨Nat.le_refl _, fun _ _ => rfl, fun i h1 h2 => absurd h2 (Nat.not_lt.mpr h1), fun _ _ e _ => e, fun _ e => e⟩
theorem Ext.trans (x : Ext ι n H ι' n' H') (y : Ext ι' n' H' ι2 n2 H2) : Ext ι n H ι2 n2 H2 := by
  refine ⟨Nat.le_trans x.le y.le, fun i hi => (y.ag i (Nat.lt_of_lt_of_le hi x.le)).trans (x.ag i hi), fun i h1 h2 => ?_, fun b o e hb => ?_, fun b e => x.st b (y.st b e)⟩
  · by_cases hi : i < n'
    · rw [y.ag i hi]; exact x.nw i h1 hi
    · exact x.st _ (y.nw i (Nat.not_lt.mp hi) h2)
  · refine y.fr b o (x.fr b o e hb) fun i hi e' => ?_
    by_cases h1 : i < n
    · exact hb i h1 (by rw [← x.ag i h1]; exact e')
    · have q := x.nw i (Nat.not_lt.mp h1) hi
      rw [e', e] at q; cases q

/-! ### the relation of data -/
theorem RD.int {j : Int} : RD K ι n H (.int j) v ↔ v = .int j := by unfold RD; exact Iff.rfl
theorem RD.bl {j : Bool} : RD K ι n H (.bl j) v ↔ v = .bl j := by unfold RD; exact Iff.rfl
theorem RD.str {j : Str} : RD K ι n H (.str j) v ↔ v = .str j := by unfold RD; exact Iff.rfl
theorem RD.non : RD K ι n H .non v ↔ v = .non := by unfold RD; exact Iff.rfl
theorem RD.ty {j : String} : RD K ι n H (.ty j) v ↔ v = .ty j := by unfold RD; exact Iff.rfl
theorem RD.ref : RD K ι n H (.ref i) v ↔ i < n ∧ v = .ref (ι i) := by unfold RD; exact Iff.rfl
theorem RD.tupX : RD K ι n H (.tup ds) v ↔ ∃ a vs, v = .ref a ∧ TpL H a vs ∧ RDs K ι n H ds vs := by
  constructor
  · intro h; unfold RD at h; exact h
  · intro h; unfold RD; exact h
theorem RD.tup.mp (r : RD K ι n H (.tup ds) v) : ∃ a vs, v = .ref a ∧ SqT K H a vs ∧ RDs K ι n H ds vs := by
  obtain ⟨a, vs, e, q, r⟩ := RD.tupX.mp r
  rcases q with q | q
  · exact ⟨a, vs, e, .inl (.inl q), r⟩
  · exact ⟨a, vs, e, q.sq, r⟩
theorem RD.tup.mpr (r : ∃ a vs, v = .ref a ∧ H a = some (.tup vs) ∧ RDs K ι n H ds vs) : RD K ι n H (.tup ds) v := let ⟨a, vs, e, q, r⟩ := r; RD.tupX.mpr ⟨a, vs, e, .inl q, r⟩
theorem RD.kt : RD K ι n H (.kt ds) v ↔ ∃ a vs, v = .ref a ∧ KtL H a vs ∧ RDs K ι n H ds vs := by
  constructor
  · intro h; unfold RD at h; exact h
  · intro h; unfold RD; exact h
theorem RD.rol : RD K ι n H (.rol ds) v ↔ ∃ a vs, v = .ref a ∧ RoL K H a vs ∧ RDs K ι n H ds vs := by
  constructor
  · intro h; unfold RD at h; exact h
  · intro h; unfold RD; exact h
theorem RDs.nil : RDs K ι n H [] vs ↔ vs = [] := by unfold RDs; exact Iff.rfl
theorem RDs.cons : RDs K ι n H (d :: ds) vs ↔ ∃ v r, vs = v :: r ∧ RD K ι n H d v ∧ RDs K ι n H ds r := by
  constructor
  · intro h; unfold RDs at h; exact h
  · intro h; unfold RDs; exact h
theorem RDs.cons' (h1 : RD K ι n H d v) (h2 : RDs K ι n H ds vs) : RDs K ι n H (d :: ds) (v :: vs) := RDs.cons.mpr ⟨v, vs, rfl, h1, h2⟩
theorem RDs.nil' : RDs K ι n H [] [] := RDs.nil.mpr rfl
theorem RDs.length : ∀ {ds : List D} {vs : List V}, RDs K ι n H ds vs → ds.length = vs.length
  | [], vs, h => by rw [RDs.nil.mp h]; rfl
  | d :: ds, vs, h => by
    obtain ⟨v, r, rfl, _, h2⟩ := RDs.cons.mp h
    simp [RDs.length h2]
theorem RDs.get : ∀ {ds : List D} {vs : List V} {i : Nat} {d : D}, RDs K ι n H ds vs → ds[i]? = some d → ∃ v, vs[i]? = some v ∧ RD K ι n H d v
  | [], vs, i, d, h, e => by simp at e
  | d' :: ds, vs, 0, d, h, e => by
    obtain ⟨v, r, rfl, h1, h2⟩ := RDs.cons.mp h
    simp at e; subst e
    exact ⟨v, rfl, h1⟩
  | d' :: ds, vs, i + 1, d, h, e => by
    obtain ⟨v, r, rfl, h1, h2⟩ := RDs.cons.mp h
    simpa using RDs.get h2 (by simpa using e)
theorem RDs.append : ∀ {ds es : List D} {vs ws : List V}, RDs K ι n H ds vs → RDs K ι n H es ws → RDs K ι n H (ds ++ es) (vs ++ ws)
  | [], es, vs, ws, h, h' => by rw [RDs.nil.mp h]; exact h'
  | d :: ds, es, vs, ws, h, h' => by
    obtain ⟨v, r, rfl, h1, h2⟩ := RDs.cons.mp h
    exact RDs.cons' h1 (RDs.append h2 h')
theorem RDs.take : ∀ {ds : List D} {vs : List V} (k : Nat), RDs K ι n H ds vs → RDs K ι n H (ds.take k) (vs.take k)
  | _, _, 0, h => by simp only [List.take_zero]; exact RDs.nil'
  | [], vs, k + 1, h => by rw [RDs.nil.mp h]; exact RDs.nil'
  | d :: ds, vs, k + 1, h => by
    obtain ⟨v, r, rfl, h1, h2⟩ := RDs.cons.mp h
    exact RDs.cons' h1 (RDs.take k h2)
theorem RDs.drop : ∀ {ds : List D} {vs : List V} (k : Nat), RDs K ι n H ds vs → RDs K ι n H (ds.drop k) (vs.drop k)
  | _, _, 0, h => by simpa using h
  | [], vs, k + 1, h => by rw [RDs.nil.mp h]; exact RDs.nil'
  | d :: ds, vs, k + 1, h => by
    obtain ⟨v, r, rfl, h1, h2⟩ := RDs.cons.mp h
    simpa using RDs.drop k h2
theorem RDs.set : ∀ {ds : List D} {vs : List V} (k : Nat), RDs K ι n H ds vs → RD K ι n H d v → RDs K ι n H (ds.set k d) (vs.set k v)
  | [], vs, k, h, _ => by rw [RDs.nil.mp h]; exact RDs.nil'
  | d' :: ds, vs, 0, h, r => by
    obtain ⟨v', r', rfl, h1, h2⟩ := RDs.cons.mp h
    exact RDs.cons' r h2
  | d' :: ds, vs, k + 1, h, r => by
    obtain ⟨v', r', rfl, h1, h2⟩ := RDs.cons.mp h
    exact RDs.cons' h1 (RDs.set k h2 r)
theorem RDs.eraseIdx : ∀ {ds : List D} {vs : List V} (k : Nat), RDs K ι n H ds vs → RDs K ι n H (ds.eraseIdx k) (vs.eraseIdx k)
  | [], vs, k, h => by rw [RDs.nil.mp h]; exact RDs.nil'
  | d' :: ds, vs, 0, h => by
    obtain ⟨v', r', rfl, h1, h2⟩ := RDs.cons.mp h
    exact h2
  | d' :: ds, vs, k + 1, h => by
    obtain ⟨v', r', rfl, h1, h2⟩ := RDs.cons.mp h
    exact RDs.cons' h1 (RDs.eraseIdx k h2)
theorem RDs.reverse : ∀ {ds : List D} {vs : List V}, RDs K ι n H ds vs → RDs K ι n H ds.reverse vs.reverse
  | [], vs, h => by rw [RDs.nil.mp h]; exact RDs.nil'
  | d' :: ds, vs, h => by
    obtain ⟨v', r', rfl, h1, h2⟩ := RDs.cons.mp h
    simp only [List.reverse_cons]
    exact RDs.append (RDs.reverse h2) (RDs.cons' h1 RDs.nil')
theorem RDs.dropLast {ds : List D} {vs : List V} (h : RDs K ι n H ds vs) : RDs K ι n H ds.dropLast vs.dropLast := by
  rw [List.dropLast_eq_take, List.dropLast_eq_take, h.length]
  exact h.take _
theorem RDs.rep {ds : List D} {vs : List V} (h : RDs K ι n H ds vs) : ∀ k : Nat, RDs K ι n H (List.replicate k ds).flatten (List.replicate k vs).flatten
  | 0 => RDs.nil'
  | k + 1 => by
    rw [List.replicate_succ, List.replicate_succ, List.flatten_cons, List.flatten_cons]
    exact RDs.append h (RDs.rep h k)

/-- what is tracked within the heap of lists is no tuple and not locked -/
theorem Rel.mut (R : Rel K ι h H) (hi : i < h.length) : Mu (H (ι i)) := by
  have e : h[i]? = some h[i] := List.getElem?_eq_getElem hi
  have q := R.ob i _ e
  cases r : h[i] with
  | lst ds => rw [r] at q; obtain ⟨vs, e, _⟩ := q; rw [e]; trivial
  | dK ds => rw [r] at q; obtain ⟨vs, e, _⟩ := q; rw [e]; trivial
  | dT ds => rw [r] at q; obtain ⟨vs, e, _⟩ := q; rw [e]; trivial
  | lk ds od ws => rw [r] at q; obtain ⟨e, _⟩ := q; rw [e]; trivial
theorem Rel.fix (R : Rel K ι h H) (x : Ext ι h.length H ι' n' H') {o : HO} (e : H a = some o) (m : ¬ Mu (some o)) : H' a = some o :=
  x.fr a o e fun i hi z => by
    have q := R.mut hi
    rw [z, e] at q
    exact m q
theorem Rel.sqT (R : Rel K ι h H) (x : Ext ι h.length H ι' n' H') (q : SqT K H a vs) : SqT K H' a vs := by
  rcases q with (q | ⟨o, q⟩) | q
  · exact .inl (.inl (R.fix x q fun z => z))
  · exact .inl (.inr ⟨o, R.fix x q fun z => z⟩)
  · exact .inr q
theorem Rel.roL (R : Rel K ι h H) (x : Ext ι h.length H ι' n' H') (q : RoL K H a vs) : RoL K H' a vs := by
  rcases q with ⟨o, q⟩ | q
  · exact .inl ⟨o, R.fix x q fun z => z⟩
  · exact .inr q
/-- data keeps its meaning where tuples are kept -/
structure Grow (K : PySem.W.Frag) (ι : Nat → Addr) (n : Nat) (H : Hp) (ι' : Nat → Addr) (n' : Nat) (H' : Hp) : Prop where
  le : n ≤ n'
  ag : ∀ i, i < n → ι' i = ι i
  tp : ∀ a vs, H a = some (.tup vs) → H' a = some (.tup vs)
  ro : ∀ a vs, RoL K H a vs → RoL K H' a vs
  kt : ∀ a vs, KtL H a vs → KtL H' a vs
theorem Ext.grow (x : Ext ι h.length H ι' n' H') (R : Rel K ι h H) : Grow K ι h.length H ι' n' H' := ⟨x.le, x.ag, fun _ _ q => R.fix x q fun z => z, fun _ _ q => R.roL x q, fun _ _ q => let ⟨o, e, d⟩ := q; ⟨o, R.fix x e fun z => z, d⟩⟩
mutual
theorem RD.mono (g : Grow K ι n H ι' n' H') : ∀ {d : D} {v : V}, RD K ι n H d v → RD K ι' n' H' d v
  | .non, v, h => by unfold RD at h ⊢; exact h
  | .bl _, v, h => by unfold RD at h ⊢; exact h
  | .int _, v, h => by unfold RD at h ⊢; exact h
  | .str _, v, h => by unfold RD at h ⊢; exact h
  | .ty _, v, h => by unfold RD at h ⊢; exact h
  | .tup ds, v, h => by
    unfold RD at h ⊢
    obtain ⟨a, vs, e, q, r⟩ := h
    exact ⟨a, vs, e, q.imp (g.tp a vs) (g.kt a vs), RDs.mono g r⟩
  | .rol ds, v, h => by
    unfold RD at h ⊢
    obtain ⟨a, vs, e, q, r⟩ := h
    exact ⟨a, vs, e, g.ro a vs q, RDs.mono g r⟩
  | .kt ds, v, h => by
    unfold RD at h ⊢
    obtain ⟨a, vs, e, q, r⟩ := h
    exact ⟨a, vs, e, g.kt a vs q, RDs.mono g r⟩
  | .ref i, v, h => by
    unfold RD at h ⊢
    exact ⟨Nat.lt_of_lt_of_le h.1 g.le, by rw [g.ag i h.1]; exact h.2⟩
theorem RDs.mono (g : Grow K ι n H ι' n' H') : ∀ {ds : List D} {vs : List V}, RDs K ι n H ds vs → RDs K ι' n' H' ds vs
  | [], vs, h => by unfold RDs at h ⊢; exact h
  | d :: ds, vs, h => by
    unfold RDs at h ⊢
    obtain ⟨v, r, e, h1, h2⟩ := h
    exact ⟨v, r, e, RD.mono g h1, RDs.mono g h2⟩
end
theorem RO.mono {H0 : Hp} (g : Grow K ι n H ι' n' H') (e : H' a = H a) : RO K ι n H o a → RO K ι' n' H' o a := by
  cases o with
  | lst ds => rintro ⟨vs, q, r⟩; exact ⟨vs, e.trans q, r.mono g⟩
  | dK kvs => rintro ⟨vs, q, k, r⟩; exact ⟨vs, e.trans q, k, r.mono g⟩
  | dT kvs => rintro ⟨vs, q, k, r⟩; exact ⟨vs, e.trans q, k, r.mono g⟩
  | lk kvs od ws => rintro ⟨q, k, r⟩; exact ⟨e.trans q, k, r.mono g⟩

/-! ### the slots -/
structure RE (K : PySem.W.Frag) (ι : Nat → Addr) (n : Nat) (H : Hp) (env : AE) (σ : List (Option V)) : Prop where
  len : env.length = σ.length
  at_ : ∀ (i : Nat) (d : D), env[i]? = some (some d) → ∃ v : V, σ[i]? = some (some v) ∧ RD K ι n H d v
theorem RE.mono {env : AE} {σ : List (Option V)} (g : Grow K ι n H ι' n' H') (h : RE K ι n H env σ) : RE K ι' n' H' env σ :=
  ⟨h.len, fun i d e => let ⟨v, e1, r⟩ := h.at_ i d e; ⟨v, e1, r.mono g⟩⟩
theorem RE.set {env : AE} {σ : List (Option V)} (h : RE K ι n H env σ) (i : Nat) (r : RD K ι n H d v) : RE K ι n H (env.set i (some d)) (σ.set i (some v)) := by
  refine ⟨by simp [h.len], fun j d' e => ?_⟩
  by_cases hj : i = j
  · subst hj
    by_cases hl : i < env.length
    · rw [List.getElem?_set_self hl] at e
      have e' : d = d' := by simpa using e
      subst e'
      exact ⟨v, List.getElem?_set_self (by rw [← h.len]; exact hl), r⟩
    · rw [List.getElem?_eq_none (by simpa using hl)] at e; cases e
  · rw [List.getElem?_set_ne hj] at e ⊢
    exact h.at_ j d' e
theorem RE.forget {env : AE} {σ : List (Option V)} (h : RE K ι n H env σ) (i : Nat) (x : Option V) : RE K ι n H (env.set i none) (σ.set i x) := by
  refine ⟨by simp [h.len], fun j d' e => ?_⟩
  by_cases hj : i = j
  · subst hj
    by_cases hl : i < env.length
    · rw [List.getElem?_set_self hl] at e; cases e
    · rw [List.getElem?_eq_none (by simpa using hl)] at e; cases e
  · rw [List.getElem?_set_ne hj] at e ⊢
    exact h.at_ j d' e
end
end Rf

set_option maxHeartbeats 1000000
namespace Rf
open PySem PySem.Spec PyProof.Rows L2

/-- the own dict of an exception -/
def XD (K : PySem.W.Frag) (ι : Nat → Addr) (n : Nat) (H : Hp) (d : Option Addr) (fs : List (Str × D)) : Prop := match d with
  | some dd => ∃ ws : List (Str × V), H dd = some (.xd ws) ∧ fs.map (·.1) = ws.map (·.1) ∧ RDs K ι n H (fs.map (·.2)) (ws.map (·.2))
  | none => fs = []
/-- the exception that a suite handles: its slot, its address, class, dict, fields -/
structure ExI where
  i : Nat
  a : Addr
  C : Addr
  c : Str
  d : Option Addr
  fs : List (Str × D)
structure Ct where
  X : Cx
  W : WX
  ea : Option ExI
def EA (K : PySem.W.Frag) (ι : Nat → Addr) (n : Nat) (H : Hp) (ea : Option ExI) (env : AE) (σ : List (Option V)) : Prop := match ea with
  | none => True
  | some x => σ[x.i]? = some (some (.ref x.a)) ∧ (∀ d, env[x.i]? ≠ some (some d)) ∧ XD K ι n H x.d x.fs
structure RVK (K : PySem.W.Frag) (ea : Option ExI) (ι : Nat → Addr) (n : Nat) (H : Hp) (env : AE) (σ : List (Option V)) : Prop where
  re : RE K ι n H env σ
  ea : EA K ι n H ea env σ
abbrev RV (C : Ct) (ι : Nat → Addr) (n : Nat) (H : Hp) (env : AE) (σ : List (Option V)) : Prop := RVK C.X.K C.ea ι n H env σ
section
variable {K : PySem.W.Frag} {C : Ct} {ι ι' ι1 : Nat → Addr} {n n' n1 : Nat} {H H' H1 : Hp} {h h' h1 : AH} {env : AE} {σ : List (Option V)} {d : D} {ds : List D} {v : V} {vs : List V} {a : Addr} {i : Nat}
theorem Rel.xd (R : Rel K ι h H) (x : Ext ι h.length H ι' n' H') {d : Option Addr} {fs : List (Str × D)} (q : XD K ι h.length H d fs) : XD K ι' n' H' d fs := by
  cases d with
  | none => exact q
  | some dd =>
    obtain ⟨ws, e, k, r⟩ := q
    exact ⟨ws, R.fix x e fun z => z, k, r.mono (x.grow R)⟩
theorem RV.ext (R : Rel C.X.K ι h H) (x : Ext ι h.length H ι' n' H') (e : RV C ι h.length H env σ) : RV C ι' n' H' env σ := by
  refine ⟨e.re.mono (x.grow R), ?_⟩
  have q := e.ea
  unfold EA at q ⊢
  cases r : C.ea with
  | none => trivial
  | some y =>
    rw [r] at q
    exact ⟨q.1, q.2.1, R.xd x q.2.2⟩
theorem RV.set (e : RV C ι n H env σ) (i : Nat) (r : RD C.X.K ι n H d v) (hi : ∀ x, C.ea = some x → x.i ≠ i) : RV C ι n H (env.set i (some d)) (σ.set i (some v)) := by
  refine ⟨e.re.set i r, ?_⟩
  have q := e.ea
  unfold EA at q ⊢
  cases z : C.ea with
  | none => trivial
  | some y =>
    rw [z] at q
    have hne := hi y z
    refine ⟨by rw [List.getElem?_set_ne (Ne.symm hne)]; exact q.1, fun d' e' => q.2.1 d' ?_, q.2.2⟩
    rw [List.getElem?_set_ne (Ne.symm hne)] at e'
    exact e'

/-! ### what must hold behind -/
def PostE (C : Ct) (ι : Nat → Addr) (n : Nat) (H : Hp) (σ : List (Option V)) (o : ER) (Q : VK) : Prop := match o with
  | .ok d h' => ∀ ι' H' v, Ext ι n H ι' h'.length H' → Rel C.X.K ι' h' H' → RD C.X.K ι' h'.length H' d v → Q v H'
  | .exc c fs h' => ∀ ι' H' Cl dd, Ext ι n H ι' h'.length H' → Rel C.X.K ι' h' H' → C.X.mg c = some (.ref Cl) → XD C.X.K ι' h'.length H' dd fs → C.W (.ref Cl) dd σ H'
  | .stuck => False
def PostL (C : Ct) (ι : Nat → Addr) (n : Nat) (H : Hp) (σ : List (Option V)) (o : LR) (Q : List V → Hp → Prop) : Prop := match o with
  | .ok ds h' => ∀ ι' H' vs, Ext ι n H ι' h'.length H' → Rel C.X.K ι' h' H' → RDs C.X.K ι' h'.length H' ds vs → Q vs H'
  | .exc c fs h' => ∀ ι' H' Cl dd, Ext ι n H ι' h'.length H' → Rel C.X.K ι' h' H' → C.X.mg c = some (.ref Cl) → XD C.X.K ι' h'.length H' dd fs → C.W (.ref Cl) dd σ H'
  | .stuck => False
def PostT (C : Ct) (ι : Nat → Addr) (n : Nat) (H : Hp) (σ : List (Option V)) (o : ER) (Q : Bool → Hp → Prop) : Prop := match o with
  | .ok d h' => ∃ b, d = .bl b ∧ ∀ ι' H', Ext ι n H ι' h'.length H' → Rel C.X.K ι' h' H' → Q b H'
  | .exc c fs h' => ∀ ι' H' Cl dd, Ext ι n H ι' h'.length H' → Rel C.X.K ι' h' H' → C.X.mg c = some (.ref Cl) → XD C.X.K ι' h'.length H' dd fs → C.W (.ref Cl) dd σ H'
  | .stuck => False
def PostS (C : Ct) (ι : Nat → Addr) (n : Nat) (H : Hp) (o : SR) (D : Ends) : Prop := match o with
  | .nx env' h' => ∀ ι' H' σ', Ext ι n H ι' h'.length H' → Rel C.X.K ι' h' H' → RV C ι' h'.length H' env' σ' → D.nx σ' H'
  | .rt d h' => ∀ ι' H' v, Ext ι n H ι' h'.length H' → Rel C.X.K ι' h' H' → RD C.X.K ι' h'.length H' d v → D.rt v H'
  | .bk env' h' => ∀ ι' H' σ', Ext ι n H ι' h'.length H' → Rel C.X.K ι' h' H' → RV C ι' h'.length H' env' σ' → D.bk σ' H'
  | .ct env' h' => ∀ ι' H' σ', Ext ι n H ι' h'.length H' → Rel C.X.K ι' h' H' → RV C ι' h'.length H' env' σ' → D.ct σ' H'
  | .exc c fs env' h' => ∀ ι' H' σ' Cl dd, Ext ι n H ι' h'.length H' → Rel C.X.K ι' h' H' → RV C ι' h'.length H' env' σ' → C.X.mg c = some (.ref Cl) → XD C.X.K ι' h'.length H' dd fs → C.W (.ref Cl) dd σ' H'
  | .stuck => False
theorem PostE.shift {o : ER} {Q : VK} (p : PostE C ι n H σ o Q) (x : Ext ι n H ι1 n1 H1) : PostE C ι1 n1 H1 σ o Q := by
  cases o with
  | ok d h' => exact fun ι' H' v y => p ι' H' v (x.trans y)
  | exc c fs h' => exact fun ι' H' Cl dd y => p ι' H' Cl dd (x.trans y)
  | stuck => exact p
theorem PostL.shift {o : LR} {Q : List V → Hp → Prop} (p : PostL C ι n H σ o Q) (x : Ext ι n H ι1 n1 H1) : PostL C ι1 n1 H1 σ o Q := by
  cases o with
  | ok d h' => exact fun ι' H' v y => p ι' H' v (x.trans y)
  | exc c fs h' => exact fun ι' H' Cl dd y => p ι' H' Cl dd (x.trans y)
  | stuck => exact p
theorem PostT.shift {o : ER} {Q : Bool → Hp → Prop} (p : PostT C ι n H σ o Q) (x : Ext ι n H ι1 n1 H1) : PostT C ι1 n1 H1 σ o Q := by
  cases o with
  | ok d h' =>
    obtain ⟨b, e, p⟩ := p
    exact ⟨b, e, fun ι' H' y => p ι' H' (x.trans y)⟩
  | exc c fs h' => exact fun ι' H' Cl dd y => p ι' H' Cl dd (x.trans y)
  | stuck => exact p
theorem PostS.shift {o : SR} {D : Ends} (p : PostS C ι n H o D) (x : Ext ι n H ι1 n1 H1) : PostS C ι1 n1 H1 o D := by
  cases o with
  | nx e h' => exact fun ι' H' s y => p ι' H' s (x.trans y)
  | rt e h' => exact fun ι' H' s y => p ι' H' s (x.trans y)
  | bk e h' => exact fun ι' H' s y => p ι' H' s (x.trans y)
  | ct e h' => exact fun ι' H' s y => p ι' H' s (x.trans y)
  | exc c fs e h' => exact fun ι' H' s Cl dd y => p ι' H' s Cl dd (x.trans y)
  | stuck => exact p
end

/-! ### the judgements: the def's piece e is done by the plain function m -/
abbrev EM := AE → AH → ER
abbrev LM := AE → AH → LR
abbrev SM := AE → AH → SR
structure SimE (C : Ct) (t : TE) (m : EM) : Prop where
  run : ∀ (env : AE) (h : AH) (σ : List (Option V)) (H : Hp) (ι : Nat → Addr) (Q : VK), Rel C.X.K ι h H → RV C ι h.length H env σ → PostE C ι h.length H σ (m env h) Q → t σ H Q
structure SimT (C : Ct) (t : TT) (m : EM) : Prop where
  run : ∀ (env : AE) (h : AH) (σ : List (Option V)) (H : Hp) (ι : Nat → Addr) (Q : Bool → Hp → Prop), Rel C.X.K ι h H → RV C ι h.length H env σ → PostT C ι h.length H σ (m env h) Q → t σ H Q
structure SimL (C : Ct) (t : TA) (m : LM) : Prop where
  run : ∀ (env : AE) (h : AH) (σ : List (Option V)) (H : Hp) (ι : Nat → Addr) (Q : List V → Hp → Prop), Rel C.X.K ι h H → RV C ι h.length H env σ → PostL C ι h.length H σ (m env h) Q → t σ H Q
structure SimS (C : Ct) (t : TS) (m : SM) : Prop where
  run : ∀ (env : AE) (h : AH) (σ : List (Option V)) (H : Hp) (ι : Nat → Addr) (D : Ends), Rel C.X.K ι h H → RV C ι h.length H env σ → PostS C ι h.length H (m env h) D → t D σ H
def ME (C : Ct) (e : Expr) (m : EM) : Prop := ∃ t, PE C.X e t ∧ SimE C t m
def MT (C : Ct) (e : Expr) (m : EM) : Prop := ∃ t, PT C.X e t ∧ SimT C t m
def MW (C : Ct) (e : Expr) (m : EM) : Prop := ∃ t, PW C.X e t ∧ SimT C t m
def MA (C : Ct) (es : List Expr) (m : LM) : Prop := ∃ t, PA C.X es t ∧ SimL C t m
def MS (C : Ct) (s : Stmt) (m : SM) : Prop := ∃ t, PS C.X s t ∧ SimS C t m
def MB (C : Ct) (s : List Stmt) (m : SM) : Prop := ∃ t, PSs C.X s t ∧ SimS C t m

/-! ### the plain functions of the constructs -/
def ER.then (o : ER) (f : D → AH → ER) : ER := match o with
  | .ok d h => f d h
  | .exc c fs h => .exc c fs h
  | .stuck => .stuck
def LR.then (o : LR) (f : List D → AH → ER) : ER := match o with
  | .ok d h => f d h
  | .exc c fs h => .exc c fs h
  | .stuck => .stuck
def eVar (i : Nat) : EM := fun env h => match env[i]? with
  | some (some d) => .ok d h
  | _ => .stuck
def eC (d : D) : EM := fun _ h => .ok d h
def eOp (g : D → D → AH → ER) (a b : EM) : EM := fun env h => (a env h).then fun d1 h1 => (b env h1).then fun d2 h2 => g d1 d2 h2
def eUn (g : D → AH → ER) (a : EM) : EM := fun env h => (a env h).then fun d1 h1 => g d1 h1
def eIf (c a b : EM) : EM := fun env h => (c env h).then fun d h1 => match d with
  | .bl true => a env h1
  | .bl false => b env h1
  | _ => .stuck
/-- and, or of bools -/
def eAnd (a b : EM) : EM := fun env h => (a env h).then fun d h1 => match d with
  | .bl true => b env h1
  | .bl false => .ok (.bl false) h1
  | _ => .stuck
def eOr (a b : EM) : EM := fun env h => (a env h).then fun d h1 => match d with
  | .bl true => .ok (.bl true) h1
  | .bl false => b env h1
  | _ => .stuck
def eNot (a : EM) : EM := fun env h => (a env h).then fun d h1 => match d with
  | .bl b => .ok (.bl (!b)) h1
  | _ => .stuck
def lNil : LM := fun _ h => .ok [] h
def lCons (a : EM) (r : LM) : LM := fun env h => match a env h with
  | .ok d h1 => (match r env h1 with
    | .ok ds h2 => .ok (d :: ds) h2
    | .exc c fs h2 => .exc c fs h2
    | .stuck => .stuck)
  | .exc c fs h1 => .exc c fs h1
  | .stuck => .stuck
def eCall (g : List D → AH → ER) (a : LM) : EM := fun env h => (a env h).then g

section
variable {C : Ct} {e a b c : Expr} {m ma mb mc : EM} {pos : Pos}
/-- the first of two -/
theorem SimE.then {t : TE} {ma : EM} (sa : SimE C t ma) {env : AE} {h : AH} {σ : List (Option V)} {H : Hp} {ι : Nat → Addr} {f : D → AH → ER} {Q Q' : VK} (R : Rel C.X.K ι h H) (V : RV C ι h.length H env σ)
    (p : PostE C ι h.length H σ ((ma env h).then f) Q)
    (k : ∀ d h' ι' H' v, Ext ι h.length H ι' h'.length H' → Rel C.X.K ι' h' H' → RV C ι' h'.length H' env σ → RD C.X.K ι' h'.length H' d v → PostE C ι' h'.length H' σ (f d h') Q → Q' v H') : t σ H Q' := by
  refine sa.run env h σ H ι Q' R V ?_
  cases hm : ma env h with
  | ok d h1 =>
    rw [hm] at p
    exact fun ι' H' v x R' r => k d h1 ι' H' v x R' (V.ext R x) r (PostE.shift p x)
  | exc c fs h1 => rw [hm] at p; exact p
  | stuck => rw [hm] at p; exact p
theorem SimT.then {t : TT} {ma : EM} (sa : SimT C t ma) {env : AE} {h : AH} {σ : List (Option V)} {H : Hp} {ι : Nat → Addr} {f : Bool → AH → ER} {Q : VK} {Q' : Bool → Hp → Prop} (R : Rel C.X.K ι h H) (V : RV C ι h.length H env σ)
    (p : PostE C ι h.length H σ ((ma env h).then fun d h1 => match d with | .bl b => f b h1 | _ => .stuck) Q)
    (k : ∀ b h' ι' H', Ext ι h.length H ι' h'.length H' → Rel C.X.K ι' h' H' → RV C ι' h'.length H' env σ → PostE C ι' h'.length H' σ (f b h') Q → Q' b H') : t σ H Q' := by
  refine sa.run env h σ H ι Q' R V ?_
  cases hm : ma env h with
  | ok d h1 =>
    rw [hm] at p
    cases d with
    | bl b => exact ⟨b, rfl, fun ι' H' x R' => k b h1 ι' H' x R' (V.ext R x) (PostE.shift p x)⟩
    | _ => exact (show False from p).elim
  | exc c fs h1 => rw [hm] at p; exact p
  | stuck => rw [hm] at p; exact p

/-! ### names, constants -/
theorem me_var (i : Nat) {x : Str} (hN : C.X.N[i]? = some x := by rfl) (hv : Vis C.X.env.scope x := by first | exact Or.inl rfl | exact Or.inr (Or.inl rfl) | exact Or.inr (Or.inr rfl)) (hd : (x == ("__debug__" : Str)) = false := by decide)
    (hcd : (x == ("__classdict__" : Str)) = false := by decide) : ME C (.Name x pos) (eVar i) := by
  refine ⟨_, pe_var hN hv hd hcd, ⟨fun env h σ H ι Q R V p => ?_⟩⟩
  unfold eVar at p
  split at p
  · rename_i d e
    obtain ⟨v, e2, r⟩ := V.re.at_ i d e
    exact ⟨v, e2, p ι H v .refl R r⟩
  · exact p.elim
theorem me_C {v : V} {d : D} (hp : PE C.X e (tC v)) (hd : ∀ ι n H, RD C.X.K ι n H d v) : ME C e (eC d) :=
  ⟨_, hp, ⟨fun env h σ H ι Q R V p => p ι H v .refl R (hd _ _ _)⟩⟩

/-! ### operators, by values -/
/-- r asks no more of related values than g tells -/
def OpS (C : Ct) (r : R2) (g : D → D → AH → ER) : Prop := ∀ (ι : Nat → Addr) (h : AH) (H : Hp) (σ : List (Option V)) (x y : V) (d1 d2 : D) (Q : VK), Rel C.X.K ι h H → RD C.X.K ι h.length H d1 x → RD C.X.K ι h.length H d2 y → PostE C ι h.length H σ (g d1 d2 h) Q → r x y H Q
def UnS (C : Ct) (r : V → Hp → VK → Prop) (g : D → AH → ER) : Prop := ∀ (ι : Nat → Addr) (h : AH) (H : Hp) (σ : List (Option V)) (x : V) (d : D) (Q : VK), Rel C.X.K ι h H → RD C.X.K ι h.length H d x → PostE C ι h.length H σ (g d h) Q → r x H Q
def CallS (C : Ct) (r : List V → Hp → VK → Prop) (g : List D → AH → ER) : Prop := ∀ (ι : Nat → Addr) (h : AH) (H : Hp) (σ : List (Option V)) (xs : List V) (ds : List D) (Q : VK), Rel C.X.K ι h H → RDs C.X.K ι h.length H ds xs → PostE C ι h.length H σ (g ds h) Q → r xs H Q
def TruS (C : Ct) (g : D → AH → ER) : Prop := ∀ (ι : Nat → Addr) (h : AH) (H : Hp) (σ : List (Option V)) (x : V) (d : D) (Q : Bool → Hp → Prop), Rel C.X.K ι h H → RD C.X.K ι h.length H d x → PostT C ι h.length H σ (g d h) Q → ∃ k, TruV C.X.K x H k ∧ Q k H
theorem SimE.op {ta tb : TE} (sa : SimE C ta ma) (sb : SimE C tb mb) {r : R2} {g : D → D → AH → ER} (hs : OpS C r g) : SimE C (tOp r ta tb) (eOp g ma mb) := by
  refine ⟨fun env h σ H ι Q R V p => ?_⟩
  refine sa.then R V p fun d1 h1 ι1 H1 v1 x1 R1 V1 r1 p1 => ?_
  refine sb.then R1 V1 p1 fun d2 h2 ι2 H2 v2 x2 R2 V2 r2 p2 => ?_
  exact hs ι2 h2 H2 σ v1 v2 d1 d2 Q R2 (r1.mono (x2.grow R1)) r2 p2
theorem me_op {op : Operator} {r : R2} {g : D → D → AH → ER} (ho : OpR C.X (binaryOp op) r) (hs : OpS C r g) (ha : ME C a ma) (hb : ME C b mb) : ME C (.BinOp a op b pos) (eOp g ma mb) := by
  obtain ⟨ta, pa, sa⟩ := ha
  obtain ⟨tb, pb, sb⟩ := hb
  exact ⟨_, pe_op ho pa pb, sa.op sb hs⟩
theorem me_un {op : UnaryOp} {r : V → Hp → VK → Prop} {g : D → AH → ER} (ho : UnR C.X (unaryOp op) r) (hs : UnS C r g) (ha : ME C a ma) : ME C (.UnaryOp op a pos) (eUn g ma) := by
  obtain ⟨ta, pa, sa⟩ := ha
  refine ⟨_, pe_un ho pa, ⟨fun env h σ H ι Q R V p => ?_⟩⟩
  refine sa.then R V p fun d1 h1 ι1 H1 v1 x1 R1 V1 r1 p1 => ?_
  exact hs ι1 h1 H1 σ v1 d1 Q R1 r1 p1
theorem me_cmp {op : CmpOp} {r : R2} {g : D → D → AH → ER} (ho : OpR C.X (compareOp op) r) (hs : OpS C r g) (ha : ME C a ma) (hb : ME C b mb) (hm : behindInMarks op b = false) : ME C (.Compare a [op] [b] pos) (eOp g ma mb) := by
  obtain ⟨ta, pa, sa⟩ := ha
  obtain ⟨tb, pb, sb⟩ := hb
  exact ⟨_, pe_cmpR ho pa pb hm, sa.op sb hs⟩
theorem SimE.test {t : TE} (s : SimE C t m) : SimT C (tTest t) m := by
  refine ⟨fun env h σ H ι Q R V p => ?_⟩
  refine s.run env h σ H ι _ R V ?_
  cases hm : m env h with
  | ok d h1 =>
    rw [hm] at p
    obtain ⟨b, rfl, p⟩ := p
    exact fun ι' H' v x R' r => ⟨b, RD.bl.mp r, p ι' H' x R'⟩
  | exc c fs h1 => rw [hm] at p; exact p
  | stuck => rw [hm] at p; exact p
theorem mt_cmp {op : CmpOp} {r : R2} {g : D → D → AH → ER} (ho : OpR C.X (compareOp op) r) (hs : OpS C r g) (ha : ME C a ma) (hb : ME C b mb) (hm : behindInMarks op b = false) : MT C (.Compare a [op] [b] pos) (eOp g ma mb) := by
  obtain ⟨ta, pa, sa⟩ := ha
  obtain ⟨tb, pb, sb⟩ := hb
  exact ⟨_, pt_cmpR ho pa pb hm, (sa.op sb hs).test⟩
/-- a op b op' c -/
def eChain (g g' : D → D → AH → ER) (a b c : EM) : EM := fun env h => (a env h).then fun d1 h1 => (b env h1).then fun d2 h2 => (g d1 d2 h2).then fun z h3 => match z with
  | .bl true => (c env h3).then fun d3 h4 => g' d2 d3 h4
  | .bl false => .ok (.bl false) h3
  | _ => .stuck
/-- r, then f -/
theorem OpS.then {r : R2} {g : D → D → AH → ER} (hs : OpS C r g) {ι : Nat → Addr} {h : AH} {H : Hp} {σ : List (Option V)} {x y : V} {d1 d2 : D} {f : D → AH → ER} {Q Q' : VK} {env : AE} (R : Rel C.X.K ι h H) (V : RV C ι h.length H env σ) (r1 : RD C.X.K ι h.length H d1 x) (r2 : RD C.X.K ι h.length H d2 y)
    (p : PostE C ι h.length H σ ((g d1 d2 h).then f) Q)
    (k : ∀ d h' ι' H' v, Ext ι h.length H ι' h'.length H' → Rel C.X.K ι' h' H' → RV C ι' h'.length H' env σ → RD C.X.K ι' h'.length H' d v → PostE C ι' h'.length H' σ (f d h') Q → Q' v H') : r x y H Q' := by
  refine hs ι h H σ x y d1 d2 Q' R r1 r2 ?_
  cases hm : g d1 d2 h with
  | ok d h1 =>
    rw [hm] at p
    exact fun ι' H' v x R' r => k d h1 ι' H' v x R' (V.ext R x) r (PostE.shift p x)
  | exc c fs h1 => rw [hm] at p; exact p
  | stuck => rw [hm] at p; exact p
theorem SimE.chain {ta tb tc : TE} (sa : SimE C ta ma) (sb : SimE C tb mb) (sc : SimE C tc mc) {r r' : R2} {g g' : D → D → AH → ER} (hs : OpS C r g) (hs' : OpS C r' g') : SimE C (tChain r r' ta tb tc) (eChain g g' ma mb mc) := by
  refine ⟨fun env h σ H ι Q R V p => ?_⟩
  refine sa.then R V p fun d1 h1 ι1 H1 v1 x1 R1 V1 r1 p1 => ?_
  refine sb.then R1 V1 p1 fun d2 h2 ι2 H2 v2 x2 R2 V2 r2 p2 => ?_
  refine hs.then R2 V2 (r1.mono (x2.grow R1)) r2 p2 fun d3 h3 ι3 H3 v3 x3 R3 V3 r3 p3 => ?_
  cases d3 with
  | bl k =>
    refine ⟨k, RD.bl.mp r3, ?_⟩
    cases k with
    | true =>
      refine iteT ?_
      refine sc.then R3 V3 p3 fun d4 h4 ι4 H4 v4 x4 R4 V4 r4 p4 => ?_
      exact hs' ι4 h4 H4 σ v2 v4 d2 d4 Q R4 (r2.mono ((x3.trans x4).grow R2)) r4 p4
    | false => exact iteF (p3 ι3 H3 _ .refl R3 (RD.bl.mpr rfl))
  | _ => exact (show False from p3).elim
theorem me_chain {op op' : CmpOp} {r r' : R2} {g g' : D → D → AH → ER} (ho : OpR C.X (compareOp op) r) (hs : OpS C r g) (ho' : OpR C.X (compareOp op') r') (hs' : OpS C r' g') (ha : ME C a ma) (hb : ME C b mb) (hc : ME C c mc)
    (hm : lastMarks [op, op'] [b, c] = false := by with_unfolding_all rfl) : ME C (.Compare a [op, op'] [b, c] pos) (eChain g g' ma mb mc) := by
  obtain ⟨ta, pa, sa⟩ := ha
  obtain ⟨tb, pb, sb⟩ := hb
  obtain ⟨tc, pc, sc⟩ := hc
  exact ⟨_, pe_chain ho ho' pa pb pc hm, sa.chain sb sc hs hs'⟩
theorem mt_chain {op op' : CmpOp} {r r' : R2} {g g' : D → D → AH → ER} (ho : OpR C.X (compareOp op) r) (hs : OpS C r g) (ho' : OpR C.X (compareOp op') r') (hs' : OpS C r' g') (ha : ME C a ma) (hb : ME C b mb) (hc : ME C c mc)
    (hm : lastMarks [op, op'] [b, c] = false := by with_unfolding_all rfl) : MT C (.Compare a [op, op'] [b, c] pos) (eChain g g' ma mb mc) := by
  obtain ⟨ta, pa, sa⟩ := ha
  obtain ⟨tb, pb, sb⟩ := hb
  obtain ⟨tc, pc, sc⟩ := hc
  exact ⟨_, pt_chain ho ho' pa pb pc hm, (sa.chain sb sc hs hs').test⟩

/-! ### tests -/
theorem mt_truth {g : D → AH → ER} (hs : TruS C g) (ha : ME C a ma) (he : ∀ whole, isTrue a C.X.env whole = (do let v ← whole; standAt a.pos; holding [v] (truthy v)) := by intro _; rfl) : MT C a (eUn g ma) := by
  obtain ⟨ta, pa, sa⟩ := ha
  refine ⟨_, pt_truth pa he, ⟨fun env h σ H ι Q R V p => ?_⟩⟩
  refine sa.run env h σ H ι _ R V ?_
  unfold eUn at p
  cases hm : ma env h with
  | ok d h1 =>
    rw [hm] at p
    refine fun ι' H' v x R' r => hs ι' h1 H' σ v d Q R' r (PostT.shift p x)
  | exc c fs h1 => rw [hm] at p; exact p
  | stuck => rw [hm] at p; exact p
theorem mt_not (ha : MT C a ma) : MT C (.UnaryOp .Not a pos) (eNot ma) := by
  obtain ⟨ta, pa, sa⟩ := ha
  refine ⟨_, pt_not pa, ⟨fun env h σ H ι Q R V p => ?_⟩⟩
  refine sa.run env h σ H ι _ R V ?_
  unfold eNot at p
  cases hm : ma env h with
  | ok d h1 =>
    rw [hm] at p
    cases d with
    | bl b =>
      obtain ⟨b', e, p⟩ := p
      cases e
      exact ⟨b, rfl, p⟩
    | _ => exact (show False from p).elim
  | exc c fs h1 => rw [hm] at p; exact p
  | stuck => rw [hm] at p; exact p
theorem mw_and1 (ha : MT C a ma) : MW C (.BoolOp .And [a] pos) ma := by
  obtain ⟨ta, pa, sa⟩ := ha
  exact ⟨_, pw_and1 pa, sa⟩
theorem mw_or1 (ha : MT C a ma) : MW C (.BoolOp .Or [a] pos) ma := by
  obtain ⟨ta, pa, sa⟩ := ha
  exact ⟨_, pw_or1 pa, sa⟩
theorem SimT.and {ta tb : TT} (sa : SimT C ta ma) (sb : SimT C tb mb) : SimT C (tAnd ta tb) (eAnd ma mb) := by
  refine ⟨fun env h σ H ι Q R V p => ?_⟩
  refine sa.run env h σ H ι _ R V ?_
  unfold eAnd at p
  cases hm : ma env h with
  | ok d h1 =>
    rw [hm] at p
    cases d with
    | bl b =>
      refine ⟨b, rfl, fun ι' H' x R' => ?_⟩
      cases b with
      | true => exact iteT (sb.run env h1 σ H' ι' Q R' (V.ext R x) (PostT.shift p x))
      | false =>
        obtain ⟨b', e, p⟩ := p
        cases e
        exact iteF (p ι' H' x R')
    | _ => exact (show False from p).elim
  | exc c fs h1 => rw [hm] at p; exact p
  | stuck => rw [hm] at p; exact p
theorem SimT.or {ta tb : TT} (sa : SimT C ta ma) (sb : SimT C tb mb) : SimT C (tOr ta tb) (eOr ma mb) := by
  refine ⟨fun env h σ H ι Q R V p => ?_⟩
  refine sa.run env h σ H ι _ R V ?_
  unfold eOr at p
  cases hm : ma env h with
  | ok d h1 =>
    rw [hm] at p
    cases d with
    | bl b =>
      refine ⟨b, rfl, fun ι' H' x R' => ?_⟩
      cases b with
      | false => exact iteF (sb.run env h1 σ H' ι' Q R' (V.ext R x) (PostT.shift p x))
      | true =>
        obtain ⟨b', e, p⟩ := p
        cases e
        exact iteT (p ι' H' x R')
    | _ => exact (show False from p).elim
  | exc c fs h1 => rw [hm] at p; exact p
  | stuck => rw [hm] at p; exact p
theorem mw_and {rest : List Expr} (ha : MT C a ma) (hb : MW C (.BoolOp .And (b :: rest) pos) mb) : MW C (.BoolOp .And (a :: b :: rest) pos) (eAnd ma mb) := by
  obtain ⟨ta, pa, sa⟩ := ha
  obtain ⟨tb, pb, sb⟩ := hb
  exact ⟨_, pw_and pa pb, sa.and sb⟩
theorem mw_or {rest : List Expr} (ha : MT C a ma) (hb : MW C (.BoolOp .Or (b :: rest) pos) mb) : MW C (.BoolOp .Or (a :: b :: rest) pos) (eOr ma mb) := by
  obtain ⟨ta, pa, sa⟩ := ha
  obtain ⟨tb, pb, sb⟩ := hb
  exact ⟨_, pw_or pa pb, sa.or sb⟩
theorem MW.mt (h : MW C a ma) : MT C a ma := by
  obtain ⟨t, p, s⟩ := h
  exact ⟨t, p.pt, s⟩
/-- .. as values (bools, but the last) -/
theorem me_one {op} (h : ME C a ma) : ME C (.BoolOp op [a] pos) ma := by
  obtain ⟨t, p, s⟩ := h
  exact ⟨t, pe_one p, s⟩
theorem me_and {rest : List Expr} (ha : ME C a ma) (hb : ME C (.BoolOp .And (b :: rest) pos) mb) : ME C (.BoolOp .And (a :: b :: rest) pos) (eAnd ma mb) := by
  obtain ⟨ta, pa, sa⟩ := ha
  obtain ⟨tb, pb, sb⟩ := hb
  refine ⟨_, pe_and pa pb, ⟨fun env h σ H ι Q R V p => ?_⟩⟩
  refine sa.then R V p fun d1 h1 ι1 H1 v1 x1 R1 V1 r1 p1 => ?_
  cases d1 with
  | bl k =>
    refine ⟨k, RD.bl.mp r1, ?_⟩
    cases k with
    | true => exact iteT (sb.run env h1 σ H1 ι1 Q R1 V1 p1)
    | false => exact iteF (p1 ι1 H1 _ .refl R1 (RD.bl.mpr rfl))
  | _ => exact (show False from p1).elim
theorem me_or {rest : List Expr} (ha : ME C a ma) (hb : ME C (.BoolOp .Or (b :: rest) pos) mb) : ME C (.BoolOp .Or (a :: b :: rest) pos) (eOr ma mb) := by
  obtain ⟨ta, pa, sa⟩ := ha
  obtain ⟨tb, pb, sb⟩ := hb
  refine ⟨_, pe_or pa pb, ⟨fun env h σ H ι Q R V p => ?_⟩⟩
  refine sa.then R V p fun d1 h1 ι1 H1 v1 x1 R1 V1 r1 p1 => ?_
  cases d1 with
  | bl k =>
    refine ⟨k, RD.bl.mp r1, ?_⟩
    cases k with
    | false => exact iteF (sb.run env h1 σ H1 ι1 Q R1 V1 p1)
    | true => exact iteT (p1 ι1 H1 _ .refl R1 (RD.bl.mpr rfl))
  | _ => exact (show False from p1).elim
theorem me_not (ha : ME C a ma) : ME C (.UnaryOp .Not a pos) (eNot ma) := by
  obtain ⟨ta, pa, sa⟩ := ha
  refine ⟨_, pe_not pa, ⟨fun env h σ H ι Q R V p => ?_⟩⟩
  refine sa.then R V p fun d1 h1 ι1 H1 v1 x1 R1 V1 r1 p1 => ?_
  cases d1 with
  | bl k => exact ⟨k, RD.bl.mp r1, p1 ι1 H1 _ .refl R1 (RD.bl.mpr rfl)⟩
  | _ => exact (show False from p1).elim
/-- a if c else b -/
theorem me_if (hc : MT C c mc) (ha : ME C a ma) (hb : ME C b mb) : ME C (.IfExp c a b pos) (eIf mc ma mb) := by
  obtain ⟨tc, pc, sc⟩ := hc
  obtain ⟨ta, pa, sa⟩ := ha
  obtain ⟨tb, pb, sb⟩ := hb
  refine ⟨_, pe_ifExp pc pa pb, ⟨fun env h σ H ι Q R V p => ?_⟩⟩
  refine sc.run env h σ H ι _ R V ?_
  unfold eIf at p
  cases hm : mc env h with
  | ok d h1 =>
    rw [hm] at p
    cases d with
    | bl k =>
      refine ⟨k, rfl, fun ι' H' x R' => ?_⟩
      cases k with
      | true => exact iteT (sa.run env h1 σ H' ι' Q R' (V.ext R x) (PostE.shift p x))
      | false => exact iteF (sb.run env h1 σ H' ι' Q R' (V.ext R x) (PostE.shift p x))
    | _ => exact (show False from p).elim
  | exc c fs h1 => rw [hm] at p; exact p
  | stuck => rw [hm] at p; exact p

/-! ### argument lists, calls of built-ins -/
theorem ma_nil : MA C [] lNil := ⟨_, pa_nil, ⟨fun env h σ H ι Q R V p => p ι H [] .refl R RDs.nil'⟩⟩
theorem ma_cons {es : List Expr} {mr : LM} (ha : ME C e m) (hr : MA C es mr) (hs : starEach (e :: es) C.X.env = (false, eval e C.X.env) :: starEach es C.X.env := by rfl) : MA C (e :: es) (lCons m mr) := by
  obtain ⟨ta, pa, sa⟩ := ha
  obtain ⟨tr, pr, sr⟩ := hr
  refine ⟨_, pa_cons pa pr hs, ⟨fun env h σ H ι Q R V p => ?_⟩⟩
  refine sa.run env h σ H ι _ R V ?_
  unfold lCons at p
  cases hm : m env h with
  | ok d h1 =>
    rw [hm] at p
    dsimp only at p
    refine fun ι' H' v x R' r => ?_
    refine sr.run env h1 σ H' ι' _ R' (V.ext R x) ?_
    cases hm2 : mr env h1 with
    | ok ds h2 =>
      rw [hm2] at p
      exact fun ι2 H2 vs x2 R2 r2 => p ι2 H2 _ (x.trans x2) R2 (RDs.cons' (r.mono (x2.grow R')) r2)
    | exc c fs h2 =>
      rw [hm2] at p
      exact fun ι2 H2 Cl dd x2 => p ι2 H2 Cl dd (x.trans x2)
    | stuck => rw [hm2] at p; exact p
  | exc c fs h1 => rw [hm] at p; exact p
  | stuck => rw [hm] at p; exact p
theorem SimL.call {t : TA} {ml : LM} (s : SimL C t ml) {r : List V → Hp → VK → Prop} {g : List D → AH → ER} (hs : CallS C r g) : SimE C (fun σ H Q => t σ H fun vs H1 => r vs H1 Q) (eCall g ml) := by
  refine ⟨fun env h σ H ι Q R V p => ?_⟩
  refine s.run env h σ H ι _ R V ?_
  unfold eCall at p
  cases hm : ml env h with
  | ok ds h1 =>
    rw [hm] at p
    exact fun ι' H' vs x R' r' => hs ι' h1 H' σ vs ds Q R' r' (PostE.shift p x)
  | exc c fs h1 => rw [hm] at p; exact p
  | stuck => rw [hm] at p; exact p
theorem me_callB {x : Str} {p : Pos} {es : List Expr} {id : String} {r : List V → Hp → VK → Prop} {g : List D → AH → ER} {ml : LM} (hc : CallR C.X (.builtin id) r) (hs : CallS C r g) (hm : C.X.mg x = none) (ha : MA C (e :: es) ml) (hv : bootBuiltins x = some (.builtin id) := by decide +kernel) (hg : Gl C.X x := by rfl) (hn : x ≠ "__name__" := by decide) (hdb : (x == ("__debug__" : Str)) = false := by decide)
    (he : starEach (e :: es) C.X.env = (false, eval e C.X.env) :: starEach es C.X.env := by rfl) (hpl : (backTo pos (starEach es C.X.env)).any (·.1) = false := by rfl) : ME C (.Call (.Name x p) (e :: es) [] pos) (eCall g ml) := by
  obtain ⟨t, pa, s⟩ := ha
  exact ⟨_, pe_callB hc hg hm hv pa hn hdb he hpl, s.call hs⟩
theorem me_callTy {x : Str} {p : Pos} {es : List Expr} {T : String} {r : List V → Hp → VK → Prop} {g : List D → AH → ER} {ml : LM} (hc : CallR C.X (.type T) r) (hs : CallS C r g) (hm : C.X.mg x = none) (ha : MA C (e :: es) ml) (hv : bootBuiltins x = some (.type T) := by decide +kernel) (hg : Gl C.X x := by rfl) (hn : x ≠ "__name__" := by decide) (hdb : (x == ("__debug__" : Str)) = false := by decide)
    (he : starEach (e :: es) C.X.env = (false, eval e C.X.env) :: starEach es C.X.env := by rfl) (hpl : (backTo pos (starEach es C.X.env)).any (·.1) = false := by rfl) : ME C (.Call (.Name x p) (e :: es) [] pos) (eCall g ml) := by
  obtain ⟨t, pa, s⟩ := ha
  exact ⟨_, pe_callTy hc hg hm hv pa hn hdb he hpl, s.call hs⟩
end
end Rf

set_option maxHeartbeats 1000000
namespace Rf
open PySem PySem.Spec PyProof.Rows L2

/-! ### statements -/
def SR.then (o : SR) (f : SM) : SR := match o with
  | .nx e h => f e h
  | r => r
/-- an expression, then a statement's piece -/
def ER.thenS (o : ER) (env : AE) (f : D → AH → SR) : SR := match o with
  | .ok d h => f d h
  | .exc c fs h => .exc c fs env h
  | .stuck => .stuck
def sPass : SM := fun e h => .nx e h
def sSeq (a b : SM) : SM := fun e h => (a e h).then b
def sRet (m : EM) : SM := fun e h => (m e h).thenS e fun d h1 => .rt d h1
def sRetN : SM := fun _ h => .rt .non h
def sExpr (m : EM) : SM := fun e h => (m e h).thenS e fun _ h1 => .nx e h1
def sIf (c : EM) (a b : SM) : SM := fun e h => (c e h).thenS e fun d h1 => match d with
  | .bl true => a e h1
  | .bl false => b e h1
  | _ => .stuck
def sBreak : SM := fun e h => .bk e h
def sCont : SM := fun e h => .ct e h
def sStuck : SM := fun _ _ => .stuck
/-- a target takes a value -/
abbrev GM := D → AE → AH → SR
def gVar (i : Nat) : GM := fun d e h => .nx (e.set i (some d)) h
def sAsg (m : EM) (g : GM) : SM := fun e h => (m e h).thenS e fun d h1 => g d e h1
def sSet (i : Nat) (m : EM) : SM := sAsg m (gVar i)

section
variable {C : Ct} {e a b c : Expr} {s : Stmt} {st st' : List Stmt} {m ma mb mc : EM} {q q' : SM} {pos : Pos}
theorem SimE.thenS {t : TE} {ma : EM} (sa : SimE C t ma) {env : AE} {h : AH} {σ : List (Option V)} {H : Hp} {ι : Nat → Addr} {f : D → AH → SR} {D : Ends} {Q' : VK} (R : Rel C.X.K ι h H) (V : RV C ι h.length H env σ)
    (p : PostS C ι h.length H ((ma env h).thenS env f) D)
    (k : ∀ d h' ι' H' v, Ext ι h.length H ι' h'.length H' → Rel C.X.K ι' h' H' → RV C ι' h'.length H' env σ → RD C.X.K ι' h'.length H' d v → PostS C ι' h'.length H' (f d h') D → Q' v H') : t σ H Q' := by
  refine sa.run env h σ H ι Q' R V ?_
  cases hm : ma env h with
  | ok d h1 =>
    rw [hm] at p
    exact fun ι' H' v x R' r => k d h1 ι' H' v x R' (V.ext R x) r (PostS.shift p x)
  | exc c fs h1 => rw [hm] at p; exact fun ι' H' Cl dd x R' mc xd => p ι' H' σ Cl dd x R' (V.ext R x) mc xd
  | stuck => rw [hm] at p; exact p
theorem mb_nil : MB C [] sPass := ⟨_, pss_nil, ⟨fun env h σ H ι D R V p => p ι H σ .refl R V⟩⟩
theorem SimS.seq {t u : TS} (s1 : SimS C t q) (s2 : SimS C u q') : SimS C (tSeq t u) (sSeq q q') := by
  refine ⟨fun env h σ H ι D R V p => ?_⟩
  refine s1.run env h σ H ι _ R V ?_
  unfold sSeq at p
  cases hm : q env h with
  | nx e h1 =>
    rw [hm] at p
    exact fun ι' H' σ' x R' V' => s2.run e h1 σ' H' ι' D R' V' (PostS.shift p x)
  | rt d h1 => rw [hm] at p; exact p
  | bk d h1 => rw [hm] at p; exact p
  | ct d h1 => rw [hm] at p; exact p
  | exc c fs e h1 => rw [hm] at p; exact p
  | stuck => rw [hm] at p; exact p
theorem mb_cons (h1 : MS C s q) (h2 : MB C st q') : MB C (s :: st) (sSeq q q') := by
  obtain ⟨t, p, s1⟩ := h1
  obtain ⟨u, p', s2⟩ := h2
  exact ⟨_, pss_cons p p', s1.seq s2⟩
theorem mb_one (h1 : MS C s q) : MB C [s] q := by
  obtain ⟨t, p, s1⟩ := h1
  exact ⟨_, pss_one p, s1⟩
theorem ms_pass : MS C (.Pass pos) sPass := ⟨_, ps_pass, ⟨fun env h σ H ι D R V p => p ι H σ .refl R V⟩⟩
theorem ms_break : MS C (.Break pos) sBreak := ⟨_, ps_break, ⟨fun env h σ H ι D R V p => p ι H σ .refl R V⟩⟩
theorem ms_continue : MS C (.Continue pos) sCont := ⟨_, ps_continue, ⟨fun env h σ H ι D R V p => p ι H σ .refl R V⟩⟩
theorem ms_never : MS C s sStuck := ⟨_, ps_never, ⟨fun env h σ H ι D R V p => p⟩⟩
theorem ms_doc {x : Str} {j : Nat} {pos' : Pos} : MS C (.Expr (.Constant (.str x) j pos) pos') sPass := ⟨_, ps_doc, ⟨fun env h σ H ι D R V p => p ι H σ .refl R V⟩⟩
theorem ms_expr (ha : ME C e m) (hs : swapsWith e none pos.line C.X.env = pure false := by rfl) : MS C (.Expr e pos) (sExpr m) := by
  obtain ⟨t, p, s1⟩ := ha
  refine ⟨_, ps_expr p hs, ⟨fun env h σ H ι D R V p => ?_⟩⟩
  exact s1.thenS R V p fun d h1 ι1 H1 v1 x1 R1 V1 r1 p1 => p1 ι1 H1 σ .refl R1 V1
theorem ms_ret (ha : ME C e m) : MS C (.Return (some e) pos) (sRet m) := by
  obtain ⟨t, p, s1⟩ := ha
  refine ⟨_, ps_ret p, ⟨fun env h σ H ι D R V p => ?_⟩⟩
  exact s1.thenS R V p fun d h1 ι1 H1 v1 x1 R1 V1 r1 p1 => p1 ι1 H1 v1 .refl R1 r1
theorem ms_retN : MS C (.Return none pos) sRetN := ⟨_, ps_retN, ⟨fun env h σ H ι D R V p => p ι H .non .refl R (RD.non.mpr rfl)⟩⟩
theorem ms_if (hc : MT C c mc) (ha : MB C st q) (hb : MB C st' q') : MS C (.If c st st' pos) (sIf mc q q') := by
  obtain ⟨tc, pc, sc⟩ := hc
  obtain ⟨ta, pa, sa⟩ := ha
  obtain ⟨tb, pb, sb⟩ := hb
  refine ⟨_, ps_if pc pa pb, ⟨fun env h σ H ι D R V p => ?_⟩⟩
  refine sc.run env h σ H ι _ R V ?_
  unfold sIf at p
  cases hm : mc env h with
  | ok d h1 =>
    rw [hm] at p
    cases d with
    | bl k =>
      refine ⟨k, rfl, fun ι' H' x R' => ?_⟩
      cases k with
      | true => exact iteT (sa.run env h1 σ H' ι' D R' (V.ext R x) (PostS.shift p x))
      | false => exact iteF (sb.run env h1 σ H' ι' D R' (V.ext R x) (PostS.shift p x))
    | _ => exact (show False from p).elim
  | exc c fs h1 => rw [hm] at p; exact fun ι' H' Cl dd x R' mc xd => p ι' H' σ Cl dd x R' (V.ext R x) mc xd
  | stuck => rw [hm] at p; exact p
theorem ms_set {i : Nat} {x : Str} {pos' : Pos} (hN : C.X.N.Nodup) (hi : C.X.N[i]? = some x) (hx : Loc C.X.env.scope x) (ha : ME C e m) (hne : ∀ y, C.ea = some y → y.i ≠ i := by exact fun _ z => nomatch z)
    (hs : swapsWith e (some (.Name x pos')) pos.line C.X.env = pure false := by rfl) (hf : C.X.fn x = true ∨ C.X.env.scope.names.lookup x = some .local := by first | exact .inl rfl | exact .inr rfl | assumption) : MS C (.Assign [.Name x pos'] e pos) (sSet i m) := by
  obtain ⟨t, p, s1⟩ := ha
  refine ⟨_, ps_set hN hi hx p hs hf, ⟨fun env h σ H ι D R V p => ?_⟩⟩
  exact s1.thenS R V p fun d h1 ι1 H1 v1 x1 R1 V1 r1 p1 => p1 ι1 H1 _ .refl R1 (V1.set i r1 hne)

/-! ### targets -/
structure SimG (C : Ct) (t : TG) (g : GM) : Prop where
  run : ∀ (d : D) (v : V) (env : AE) (h : AH) (σ : List (Option V)) (H : Hp) (ι : Nat → Addr) (Q : List (Option V) → Hp → Prop), Rel C.X.K ι h H → RV C ι h.length H env σ → RD C.X.K ι h.length H d v →
    PostS C ι h.length H (g d env h) { nx := Q, rt := fun _ _ => False } → t v σ H Q
def MG (C : Ct) (tg : Expr) (g : GM) : Prop := ∃ t, PG C.X tg t ∧ SimG C t g
structure SimGs (C : Ct) (t : TGs) (g : List D → AE → AH → SR) : Prop where
  run : ∀ (ds : List D) (vs : List V) (env : AE) (h : AH) (σ : List (Option V)) (H : Hp) (ι : Nat → Addr) (Q : List (Option V) → Hp → Prop), Rel C.X.K ι h H → RV C ι h.length H env σ → RDs C.X.K ι h.length H ds vs →
    PostS C ι h.length H (g ds env h) { nx := Q, rt := fun _ _ => False } → t vs σ H Q
def MGs (C : Ct) (tg : List Expr) (g : List D → AE → AH → SR) : Prop := ∃ t, PGs C.X tg t ∧ SimGs C t g
/-- a target lets no exception out, ends in next -/
def onlyNx (o : SR) : SR := match o with
  | .nx e h => .nx e h
  | _ => .stuck
def gNils : List D → AE → AH → SR := fun ds e h => match ds with
  | [] => .nx e h
  | _ => .stuck
def gCons (g : GM) (r : List D → AE → AH → SR) : List D → AE → AH → SR := fun ds e h => match ds with
  | d :: ds => (onlyNx (g d e h)).then fun e1 h1 => r ds e1 h1
  | _ => .stuck
def gTup (k : Nat) (r : List D → AE → AH → SR) : GM := fun d e h => match d with
  | .tup ds => if ds.length = k then r ds e h else .stuck
  | _ => .stuck
theorem mg_var {i : Nat} {x : Str} (hN : C.X.N.Nodup) (hi : C.X.N[i]? = some x) (hx : Loc C.X.env.scope x) (hne : ∀ y, C.ea = some y → y.i ≠ i := by exact fun _ z => nomatch z) (hf : C.X.fn x = true ∨ C.X.env.scope.names.lookup x = some .local := by first | exact .inl rfl | exact .inr rfl | assumption) : MG C (.Name x pos) (gVar i) :=
  ⟨_, pg_name hN hi hx hf, ⟨fun d v env h σ H ι Q R V r p => p ι H _ .refl R (V.set i r hne)⟩⟩
theorem mgs_nil : MGs C [] gNils := by
  refine ⟨_, pgs_nil, ⟨fun ds vs env h σ H ι Q R V r p => ?_⟩⟩
  cases ds with
  | nil => exact ⟨RDs.nil.mp r, p ι H σ .refl R V⟩
  | cons _ _ => exact (show False from p).elim
theorem PostS.only {ι : Nat → Addr} {n : Nat} {H : Hp} {o : SR} {D D' : Ends} (p : PostS C ι n H (onlyNx o) D) (eD : D.nx = D'.nx) : PostS C ι n H o D' := by
  cases o with
  | nx e h => exact fun ι' H' σ' x R V => by rw [← eD]; exact p ι' H' σ' x R V
  | _ => exact (show False from p).elim
theorem SR.then_only {o : SR} {f : SM} {ι : Nat → Addr} {n : Nat} {H : Hp} {D : Ends} (p : PostS C ι n H ((onlyNx o).then f) D) : ∃ e h, o = .nx e h ∧ PostS C ι n H (f e h) D := by
  cases o with
  | nx e h => exact ⟨e, h, rfl, p⟩
  | _ => exact (show False from p).elim
theorem mgs_cons {es : List Expr} {g : GM} {r : List D → AE → AH → SR} (h1 : MG C e g) (h2 : MGs C es r) (hs : (assignEach (e :: es) C.X.env).map (·.2) = assign e C.X.env :: (assignEach es C.X.env).map (·.2) := by rfl) : MGs C (e :: es) (gCons g r) := by
  obtain ⟨t, p, s1⟩ := h1
  obtain ⟨u, p', s2⟩ := h2
  refine ⟨_, pgs_cons p p' hs, ⟨fun ds vs env h σ H ι Q R V rr pp => ?_⟩⟩
  cases ds with
  | nil => exact (show False from pp).elim
  | cons d ds =>
    obtain ⟨v, vr, rfl, r1, r2⟩ := RDs.cons.mp rr
    refine ⟨v, vr, rfl, ?_⟩
    obtain ⟨e1, h1, eg, pq⟩ := SR.then_only pp
    refine s1.run d v env h σ H ι _ R V r1 ?_
    rw [eg]
    exact fun ι' H' σ' x R' V' => s2.run ds vr e1 h1 σ' H' ι' Q R' V' (r2.mono (x.grow R)) (PostS.shift pq x)
theorem mg_tup {es : List Expr} {kk k : Nat} {r : List D → AE → AH → SR} (hc : C.X.calm = true) (h : MGs C es r) (hn : (assignEach es C.X.env).length = k := by rfl) (hst : (assignEach es C.X.env).findIdx? (·.1) = none := by rfl) : MG C (.Tuple es kk pos) (gTup k r) := by
  obtain ⟨t, p, s1⟩ := h
  refine ⟨_, pg_tup hc p hn hst, ⟨fun d v env h σ H ι Q R V rr pp => ?_⟩⟩
  cases d with
  | tup ds =>
    obtain ⟨a, vs, rfl, q, r2⟩ := RD.tup.mp rr
    unfold gTup at pp
    dsimp only at pp
    by_cases hk : ds.length = k
    · rw [if_pos hk] at pp
      exact ⟨a, vs, rfl, q, by rw [← r2.length]; exact hk, s1.run ds vs env h σ H ι Q R V r2 pp⟩
    · rw [if_neg hk] at pp; exact (show False from pp).elim
  | _ => exact (show False from pp).elim
/-- a store a[i] = v, by values -/
def SetS (C : Ct) (t : TSet) (g : D → D → D → AH → Option AH) : Prop := ∀ (ι : Nat → Addr) (h : AH) (H : Hp) (x y z : V) (d1 d2 d3 : D) (h' : AH) (Q : Hp → Prop), Rel C.X.K ι h H → RD C.X.K ι h.length H d1 x → RD C.X.K ι h.length H d2 y → RD C.X.K ι h.length H d3 z →
  g d1 d2 d3 h = some h' → (∀ ι' H', Ext ι h.length H ι' h'.length H' → Rel C.X.K ι' h' H' → Q H') → t x y z H Q
def gSub (g : D → D → D → AH → Option AH) (o i : EM) : GM := fun d env h => (o env h).thenS env fun d1 h1 => (i env h1).thenS env fun d2 h2 => match g d1 d2 d h2 with
  | some h3 => .nx env h3
  | none => .stuck
theorem mg_sub {o i : Expr} {mo mi : EM} {t : TSet} {g : D → D → D → AH → Option AH} (hs : PSet C.X t) (ss : SetS C t g) (ho : ME C o mo) (hi : ME C i mi)
    (ha : ∀ v, assign (.Subscript o i pos) C.X.env v = (do
      let ov ← holding [v] (eval o C.X.env)
      let iv ← holding [v, ov] (eval i C.X.env)
      standAt pos
      holding [v, ov, iv] (setItem ov iv v)
      release [v, ov, iv] []) := by intro _; rfl) : MG C (.Subscript o i pos) (gSub g mo mi) := by
  obtain ⟨ta, pa, sa⟩ := ho
  obtain ⟨tb, pb, sb⟩ := hi
  refine ⟨_, pg_sub pa pb hs ha, ⟨fun d v env h σ H ι Q R V r p => ?_⟩⟩
  refine sa.thenS R V p fun d1 h1 ι1 H1 v1 x1 R1 V1 r1 p1 => ?_
  refine sb.thenS R1 V1 p1 fun d2 h2 ι2 H2 v2 x2 R2 V2 r2 p2 => ?_
  cases hg : g d1 d2 d h2 with
  | none => rw [hg] at p2; exact (show False from p2).elim
  | some h3 =>
    rw [hg] at p2
    exact ss ι2 h2 H2 v1 v2 v d1 d2 d h3 _ R2 (r1.mono (x2.grow R1)) r2 (r.mono ((x1.trans x2).grow R)) hg fun ι3 H3 x3 R3 => p2 ι3 H3 σ x3 R3 (V2.ext R2 x3)
theorem ms_asg {tg : Expr} {g : GM} (ha : ME C e m) (hg : MG C tg g) (hs : swapsWithSole [tg] e pos.line C.X.env = pure false := by rfl) (hw : swappedStores [tg] e C.X.env = pure none := by rfl)
    (h1 : (assignEach [tg] C.X.env).map (·.2) = [assign tg C.X.env] := by rfl) : MS C (.Assign [tg] e pos) (sAsg m (fun d e h => onlyNx (g d e h))) := by
  obtain ⟨t, p, s1⟩ := ha
  obtain ⟨u, p', s2⟩ := hg
  refine ⟨_, ps_asg p p' hs hw h1, ⟨fun env h σ H ι D R V p => ?_⟩⟩
  exact s1.thenS R V p fun d h1 ι1 H1 v1 x1 R1 V1 r1 p1 => s2.run d v1 env h1 σ H1 ι1 _ R1 V1 r1 (PostS.only p1 rfl)
/-- a, b = x, y with local names -/
def sPar (i j : Nat) (l : LM) : SM := fun e h => match l e h with
  | .ok [d1, d2] h1 => .nx ((e.set i (some d1)).set j (some d2)) h1
  | .exc c fs h1 => .exc c fs e h1
  | _ => .stuck
theorem ms_par {i j : Nat} {x y : Str} {ml : LM} {px py pt : Pos} {kt k2 : Nat} {pt2 : Pos} (hc : C.X.calm = true) (hN : C.X.N.Nodup) (hi : C.X.N[i]? = some x) (hj : C.X.N[j]? = some y) (hij : i ≠ j)
    (hx : C.X.env.scope.names.lookup x = some .local) (hy : C.X.env.scope.names.lookup y = some .local) (ha : MA C [a, b] ml)
    (hw : swappedStores [.Tuple [.Name x px, .Name y py] kt pt] (.Tuple [a, b] k2 pt2) C.X.env = pure (some [x, y])) (hne : C.ea = none := by rfl)
    (hs : swapsWithSole [.Tuple [.Name x px, .Name y py] kt pt] (.Tuple [a, b] k2 pt2) pos.line C.X.env = pure false := by rfl) :
    MS C (.Assign [.Tuple [.Name x px, .Name y py] kt pt] (.Tuple [a, b] k2 pt2) pos) (sPar i j ml) := by
  obtain ⟨t, p, s1⟩ := ha
  refine ⟨_, ps_par hc hN hi hj hij hx hy p hw hs, ⟨fun env h σ H ι D R V p => ?_⟩⟩
  refine s1.run env h σ H ι _ R V ?_
  unfold sPar at p
  have nea : ∀ y, C.ea = some y → ∀ k, y.i ≠ k := fun y z => by rw [hne] at z; cases z
  cases hm : ml env h with
  | ok ds h1 =>
    rw [hm] at p
    match ds, p with
    | [d1, d2], p =>
      refine fun ι' H' vs x R' r => ?_
      obtain ⟨v1, r1, rfl, q1, q2⟩ := RDs.cons.mp r
      obtain ⟨v2, r2, rfl, q3, q4⟩ := RDs.cons.mp q2
      cases RDs.nil.mp q4
      exact ⟨v1, v2, rfl, p ι' H' _ x R' (((V.ext R x).set i q1 fun y z => nea y z i).set j q3 fun y z => nea y z j)⟩
    | [], p => exact (show False from p).elim
    | [_], p => exact (show False from p).elim
    | _ :: _ :: _ :: _, p => exact (show False from p).elim
  | exc c fs h1 => rw [hm] at p; exact fun ι' H' Cl dd x R' mc xd => p ι' H' σ Cl dd x R' (V.ext R x) mc xd
  | stuck => rw [hm] at p; exact p
/-- name op= e -/
def sAug (i : Nat) (g : D → D → AH → ER) (m : EM) : SM := fun e h => match e[i]? with
  | some (some d) => (m e h).thenS e fun d2 h1 => (g d d2 h1).thenS e fun d3 h2 => .nx (e.set i (some d3)) h2
  | _ => .stuck
theorem ms_aug {i : Nat} {x : Str} {op : Operator} {r : R2} {g : D → D → AH → ER} {pos' : Pos} (ho : OpR C.X (inplaceOp op) r) (hs : OpS C r g) (hN : C.X.N.Nodup) (hi : C.X.N[i]? = some x) (hx : Loc C.X.env.scope x) (ha : ME C e m)
    (hne : ∀ y, C.ea = some y → y.i ≠ i := by exact fun _ z => nomatch z) (hf : C.X.fn x = true ∨ C.X.env.scope.names.lookup x = some .local := by first | exact .inl rfl | exact .inr rfl | assumption) : MS C (.AugAssign (.Name x pos') op e pos) (sAug i g m) := by
  obtain ⟨t, p, s1⟩ := ha
  have hp : PIp C.X op r := fun pins s σ H x y v u Q I rx ry hh => ho pins s σ H x y v u Q I rx ry hh
  refine ⟨_, ps_aug hN hi hx p hp hf, ⟨fun env h σ H ι D R V p => ?_⟩⟩
  unfold sAug at p
  split at p
  · rename_i d0 e0
    obtain ⟨v0, e1, r0⟩ := V.re.at_ i d0 e0
    refine ⟨v0, e1, ?_⟩
    refine s1.thenS R V p fun d h1 ι1 H1 v1 x1 R1 V1 r1 p1 => ?_
    refine hs ι1 h1 H1 σ v0 v1 d0 d _ R1 (r0.mono (x1.grow R)) r1 ?_
    cases hm : g d0 d h1 with
    | ok d3 h2 =>
      rw [hm] at p1
      exact fun ι2 H2 v2 x2 R2 r2 => p1 ι2 H2 _ x2 R2 ((V1.ext R1 x2).set i r2 hne)
    | exc c fs h2 => rw [hm] at p1; exact fun ι' H' Cl dd x R' mc xd => p1 ι' H' σ Cl dd x R' (V1.ext R1 x) mc xd
    | stuck => rw [hm] at p1; exact p1
  · exact p.elim
end

/-! ### while -/
/-- behind a turn's body: once more, or out -/
def again (r : SR) (k : SM) : SR := match r with
  | .nx e h => k e h
  | .ct e h => k e h
  | .bk e h => .nx e h
  | .rt d h => .rt d h
  | .exc c fs e h => .exc c fs e h
  | .stuck => .stuck
def whileN (c : EM) (b : SM) : Nat → SM
  | 0 => fun _ _ => .stuck
  | k + 1 => fun e h => (c e h).thenS e fun d h1 => match d with
    | .bl true => again (b e h1) (whileN c b k)
    | .bl false => .nx e h1
    | _ => .stuck
open Classical in
noncomputable def sWhile (c : EM) (b : SM) : SM := fun e h => if hk : ∃ k, whileN c b k e h ≠ .stuck then whileN c b hk.choose e h else .stuck
section
variable {C : Ct} {c : Expr} {st : List Stmt} {mc : EM} {q : SM} {pos : Pos}
/-- a body of a loop: k is what the next turns do -/
theorem PostS.again {ι : Nat → Addr} {n : Nat} {H : Hp} {r : SR} {k : SM} {D : Ends} {N : List (Option V) → Hp → Prop} (p : PostS C ι n H (again r k) D)
    (hN : ∀ env h ι' H' σ, Ext ι n H ι' h.length H' → Rel C.X.K ι' h H' → RV C ι' h.length H' env σ → PostS C ι' h.length H' (k env h) D → N σ H') : PostS C ι n H r { D with nx := N, ct := N, bk := D.nx } := by
  cases r with
  | nx e h => exact fun ι' H' σ x R V => hN e h ι' H' σ x R V (PostS.shift p x)
  | ct e h => exact fun ι' H' σ x R V => hN e h ι' H' σ x R V (PostS.shift p x)
  | bk e h => exact p
  | rt e h => exact p
  | exc c fs e h => exact p
  | stuck => exact p
theorem ms_while (hp : PassesOwn (model C.X.prog C.X.w) C.X.A C.X.env C.X.xe) (hc : MT C c mc) (hb : MB C st q) : MS C (.While c st [] pos) (sWhile mc q) := by
  obtain ⟨tc, pc, sc⟩ := hc
  obtain ⟨tb, pb, sb⟩ := hb
  refine ⟨_, ps_while hp pc pb, ⟨fun env h σ H ι D R V p => ?_⟩⟩
  unfold sWhile at p
  split at p
  · rename_i hk
    generalize hk.choose = k at p
    refine ⟨fun k σ H => ∃ env h ι, Rel C.X.K ι h H ∧ RV C ι h.length H env σ ∧ PostS C ι h.length H (whileN mc q k env h) D, ⟨k, env, h, ι, R, V, p⟩, ?_⟩
    rintro k σ H ⟨env, h, ι, R, V, p⟩
    cases k with
    | zero => exact (show False from p).elim
    | succ k =>
      refine sc.run env h σ H ι _ R V ?_
      unfold whileN at p
      cases hm : mc env h with
      | ok d h1 =>
        rw [hm] at p
        cases d with
        | bl b =>
          refine ⟨b, rfl, fun ι' H' x R' => ?_⟩
          cases b with
          | true =>
            refine iteT ⟨fun σ H => ∃ env h ι, Rel C.X.K ι h H ∧ RV C ι h.length H env σ ∧ PostS C ι h.length H (whileN mc q k env h) D, fun σ' H' hq => ⟨k, Nat.lt_succ_self k, hq⟩, ?_⟩
            refine sb.run env h1 σ H' ι' _ R' (V.ext R x) ?_
            exact PostS.again (PostS.shift (o := again (q env h1) (whileN mc q k)) p x) fun e2 h2 ι2 H2 σ2 x2 R2 V2 p2 => ⟨e2, h2, ι2, R2, V2, p2⟩
          | false => exact iteF (p ι' H' σ x R' (V.ext R x))
        | _ => exact (show False from p).elim
      | exc c fs h1 => rw [hm] at p; exact fun ι' H' Cl dd x R' mc xd => p ι' H' σ Cl dd x R' (V.ext R x) mc xd
      | stuck => rw [hm] at p; exact p
  · exact p.elim
end
/-- once it ends within k turns, it ends so -/
theorem whileN_mono {c : EM} {b : SM} : ∀ {k j : Nat} {e : AE} {h : AH}, k ≤ j → whileN c b k e h ≠ .stuck → whileN c b j e h = whileN c b k e h
  | 0, j, e, h, _, hn => absurd rfl hn
  | k + 1, 0, e, h, hj, _ => absurd hj (Nat.not_succ_le_zero k)
  | k + 1, j + 1, e, h, hj, hn => by
    unfold whileN at hn ⊢
    cases hc : c e h with
    | ok d h1 =>
      rw [hc] at hn
      cases d with
      | bl v =>
        cases v with
        | true =>
          show again (b e h1) (whileN c b j) = again (b e h1) (whileN c b k)
          have hn : again (b e h1) (whileN c b k) ≠ .stuck := hn
          cases hb : b e h1 with
          | nx e2 h2 => rw [hb] at hn; exact whileN_mono (Nat.le_of_succ_le_succ hj) hn
          | ct e2 h2 => rw [hb] at hn; exact whileN_mono (Nat.le_of_succ_le_succ hj) hn
          | bk e2 h2 => rfl
          | rt e2 h2 => rfl
          | exc c2 f2 e2 h2 => rfl
          | stuck => rfl
        | false => rfl
      | _ => rfl
    | exc c2 fs h1 => rfl
    | stuck => rfl
theorem sWhile_eq {c : EM} {b : SM} {k : Nat} {e : AE} {h : AH} {r : SR} (hr : whileN c b k e h = r) (hn : r ≠ .stuck) : sWhile c b e h = r := by
  have hk : ∃ k, whileN c b k e h ≠ .stuck := ⟨k, by rw [hr]; exact hn⟩
  unfold sWhile
  rw [dif_pos hk]
  have h1 := hk.choose_spec
  rcases Nat.le_total k hk.choose with l | l
  · rw [whileN_mono l (by rw [hr]; exact hn)]; exact hr
  · rw [← whileN_mono l h1]; exact hr
end Rf

set_option maxHeartbeats 1000000
namespace Rf
open PySem PySem.Spec PyProof.Rows L2

/-! ### what is walked -/
/-- n: at most so many turns; nxt: at a turn, in a heap: the item, or none at the end -/
structure AIt where
  n : Nat
  nxt : Nat → AH → Option (Option D)
inductive IR where
  | ok (it : AIt) (h : AH)
  | exc (c : Str) (fs : List (Str × D)) (h : AH)
  | stuck
abbrev IM := AE → AH → IR
def forN (it : AIt) (g : GM) (b : SM) : Nat → Nat → SM
  | 0, _ => fun _ _ => .stuck
  | k + 1, i => fun e h => match it.nxt i h with
    | some none => .nx e h
    | some (some d) => again ((onlyNx (g d e h)).then b) (forN it g b k (i + 1))
    | none => .stuck
def sFor (mi : IM) (g : GM) (b : SM) : SM := fun e h => match mi e h with
  | .ok it h1 => forN it g b (it.n + 1) 0 e h1
  | .exc c fs h1 => .exc c fs e h1
  | .stuck => .stuck
/-- J does what it tells, from this heap on -/
def ItR (K : PySem.W.Frag) (J : It) (it : AIt) (ι : Nat → Addr) (n : Nat) (H : Hp) : Prop := ∀ i ι' h' H', Ext ι n H ι' h'.length H' → Rel K ι' h' H' →
  (it.nxt i h' = some none → J.stop i H') ∧
  ∀ d, it.nxt i h' = some (some d) → J.go i H' ∧ ∀ x H2, J.yld i H' x H2 → ∃ ι2, Ext ι' h'.length H' ι2 h'.length H2 ∧ Rel K ι2 h' H2 ∧ RD K ι2 h'.length H2 d x
def PostI (C : Ct) (ι : Nat → Addr) (n : Nat) (H : Hp) (σ : List (Option V)) (o : IR) (Q : It → Hp → Prop) : Prop := match o with
  | .ok it h' => ∀ ι' H' J, Ext ι n H ι' h'.length H' → Rel C.X.K ι' h' H' → ItR C.X.K J it ι' h'.length H' → Q J H'
  | .exc c fs h' => ∀ ι' H' Cl dd, Ext ι n H ι' h'.length H' → Rel C.X.K ι' h' H' → C.X.mg c = some (.ref Cl) → XD C.X.K ι' h'.length H' dd fs → C.W (.ref Cl) dd σ H'
  | .stuck => False
structure SimI (C : Ct) (t : TI) (m : IM) : Prop where
  run : ∀ (env : AE) (h : AH) (σ : List (Option V)) (H : Hp) (ι : Nat → Addr) (Q : It → Hp → Prop), Rel C.X.K ι h H → RV C ι h.length H env σ → PostI C ι h.length H σ (m env h) Q → t σ H Q
def MI (C : Ct) (tg e : Expr) (m : IM) : Prop := ∃ t, PI C.X tg e t ∧ SimI C t m

section
variable {C : Ct} {e tg iter : Expr} {st : List Stmt} {m : EM} {mi : IM} {g : GM} {q : SM} {pos : Pos}
theorem ms_for (hp : PassesOwn (model C.X.prog C.X.w) C.X.A C.X.env C.X.xe) (hc : C.X.calm = true) (hi : MI C tg iter mi) (hg : MG C tg g) (hb : MB C st q) (hs : ∀ x, foldedSetIterable iter C.X.env x = pure x := by intro _; rfl) :
    MS C (.For tg iter st [] pos) (sFor mi g q) := by
  obtain ⟨ti, pi, si⟩ := hi
  obtain ⟨tg', pg, sg⟩ := hg
  obtain ⟨tb, pb, sb⟩ := hb
  refine ⟨_, ps_for hp hc pi pg pb hs, ⟨fun env h σ H ι D R V p => ?_⟩⟩
  refine si.run env h σ H ι _ R V ?_
  unfold sFor at p
  cases hm : mi env h with
  | ok it h1 =>
    rw [hm] at p
    refine fun ι0 H0 J x0 R0 J0 => ?_
    refine ⟨fun i m σ H => ∃ env h ι, Ext ι0 h1.length H0 ι h.length H ∧ Rel C.X.K ι h H ∧ RV C ι h.length H env σ ∧ PostS C ι h.length H (forN it g q m i env h) D,
      ⟨it.n + 1, env, h1, ι0, .refl, R0, V.ext R x0, PostS.shift p x0⟩, ?_⟩
    rintro i m σ H ⟨env, h, ι, x, R, V, p⟩
    cases m with
    | zero => exact (show False from p).elim
    | succ m =>
      unfold forN at p
      obtain ⟨j1, j2⟩ := J0 i ι h H x R
      cases hn : it.nxt i h with
      | none => rw [hn] at p; exact (show False from p).elim
      | some od =>
        rw [hn] at p
        cases od with
        | none => exact .inl ⟨j1 hn, p ι H σ .refl R V⟩
        | some d =>
          obtain ⟨go, y⟩ := j2 d hn
          refine .inr ⟨go, fun σ H => ∃ env h ι, Ext ι0 h1.length H0 ι h.length H ∧ Rel C.X.K ι h H ∧ RV C ι h.length H env σ ∧ PostS C ι h.length H (forN it g q m (i + 1) env h) D,
            fun σ' H' hq => ⟨m, Nat.lt_succ_self m, hq⟩, fun xv H2 hy => ?_⟩
          obtain ⟨ι2, x2, R2, r2⟩ := y xv H2 hy
          have p : PostS C ι h.length H (again ((onlyNx (g d env h)).then q) (forN it g q m (i + 1))) D := p
          have p2 := PostS.shift p x2
          refine sg.run d xv env h σ H2 ι2 _ R2 (V.ext R x2) r2 ?_
          cases hgd : g d env h with
          | nx e3 h3 =>
            rw [hgd] at p2
            refine fun ι3 H3 σ3 x3 R3 V3 => ?_
            refine sb.run e3 h3 σ3 H3 ι3 _ R3 V3 ?_
            exact PostS.again (PostS.shift p2 x3) fun e4 h4 ι4 H4 σ4 x4 R4 V4 p4 => ⟨e4, h4, ι4, x.trans (x2.trans (x3.trans x4)), R4, V4, p4⟩
          | _ => rw [hgd] at p2; exact (show False from p2).elim
  | exc c fs h1 => rw [hm] at p; exact fun ι' H' Cl dd x R' mc xd => p ι' H' σ Cl dd x R' (V.ext R x) mc xd
  | stuck => rw [hm] at p; exact p
end

/-! ### the weakest reading of a plain function -/
def canE (C : Ct) (m : EM) : TE := fun σ H Q => ∃ env h ι, Rel C.X.K ι h H ∧ RV C ι h.length H env σ ∧ PostE C ι h.length H σ (m env h) Q
def canT (C : Ct) (m : EM) : TT := fun σ H Q => ∃ env h ι, Rel C.X.K ι h H ∧ RV C ι h.length H env σ ∧ PostT C ι h.length H σ (m env h) Q
theorem ME.can {C : Ct} {e : Expr} {m : EM} (h : ME C e m) : PE C.X e (canE C m) := by
  obtain ⟨t, p, s⟩ := h
  exact ⟨fun pins st σ H Q I ⟨env, h, ι, R, V, q⟩ => p.run pins st σ H Q I (s.run env h σ H ι Q R V q)⟩
theorem MT.can {C : Ct} {e : Expr} {m : EM} (h : MT C e m) : PT C.X e (canT C m) := by
  obtain ⟨t, p, s⟩ := h
  exact ⟨fun pins st σ H Q I ⟨env, h, ι, R, V, q⟩ => p.run pins st σ H Q I (s.run env h σ H ι Q R V q)⟩

/-! ### comprehensions -/
/-- the context of a comprehension's block -/
abbrev Ct.blk (C : Ct) (s : Shared) (H : Hp) (scope : Scope) (Cc : Addr) (cl : List (Str × Addr)) (fp : List Addr) : Ct := ⟨C.X.blk s H scope (compEnvC scope cl Cc C.X.env) fp, fun _ _ _ _ => False, none⟩
/-- what the readings of a block's parts lean on -/
abbrev Ct.flat (C : Ct) : Ct := ⟨C.X, fun _ _ _ _ => False, none⟩
/-- of a length that a list, a tuple, a text may have -/
def Fits (n : Nat) : Prop := n ≤ sizeLine
def FitsL (n : Nat) : Prop := n < sizeLine
noncomputable instance {n : Nat} : Decidable (Fits n) := Classical.propDecidable _
noncomputable instance {n : Nat} : Decidable (FitsL n) := Classical.propDecidable _
def wipeE (e : AE) : List Nat → AE
  | [] => e
  | v :: vs => (wipeE e vs).set v none
/-- the tests and the element at the items from i on -/
noncomputable def lcN (it : AIt) (g : GM) (tt : EM) (te : EM) (e0 : AE) : Nat → Nat → List D → AH → ER ⊕ (List D × AH)
  | 0, _ => fun _ _ => .inl .stuck
  | k + 1, i => fun acc h => match it.nxt i h with
    | some none => .inr (acc, h)
    | some (some d) => (match g d e0 h with
      | .nx e1 h1 => (match tt e1 h1 with
        | .ok (.bl true) h2 => (match te e1 h2 with
          | .ok d2 h3 => if FitsL acc.length then lcN it g tt te e0 k (i + 1) (acc ++ [d2]) h3 else .inl .stuck
          | _ => .inl .stuck)
        | .ok (.bl false) h2 => lcN it g tt te e0 k (i + 1) acc h2
        | _ => .inl .stuck)
      | _ => .inl .stuck)
    | none => .inl .stuck
noncomputable def eLc (mi : IM) (g : GM) (tt : EM) (te : EM) (vs : List Nat) : EM := fun e h => match mi e h with
  | .ok it h1 => (match lcN it g tt te (wipeE e vs) (it.n + 1) 0 [] h1 with
    | .inr (acc, h2) => .ok (.ref h2.length) (h2 ++ [.lst acc])
    | .inl _ => .stuck)
  | .exc c fs h1 => .exc c fs h1
  | .stuck => .stuck
section
variable {K : PySem.W.Frag} {C : Ct} {ι ι' : Nat → Addr} {n n' : Nat} {H H' : Hp} {h h' : AH} {env : AE} {σ : List (Option V)} {d : D} {ds : List D} {v : V} {xs : List V} {a p : Addr} {i : Nat} {o : AO} {ho : HO}
theorem RE.wipe (r : RE K ι n H env σ) : ∀ vs : List Nat, RE K ι n H (wipeE env vs) (L2.wipe σ vs)
  | [] => r
  | v :: vs => (RE.wipe r vs).forget v none
/-- a fresh number -/
def ιset (ι : Nat → Addr) (n : Nat) (p : Addr) : Nat → Addr := fun i => if i = n then p else ι i
theorem ιset_same : ιset ι n p n = p := if_pos rfl
theorem ιset_ne (hi : i ≠ n) : ιset ι n p i = ι i := if_neg hi
theorem ιset_lt (hi : i < n) : ιset ι n p i = ι i := if_neg (Nat.ne_of_lt hi)
theorem Ext.tup (hp : H p = none) : Ext ι n H ι n (upd H p ho) := by
  refine ⟨Nat.le_refl _, fun _ _ => rfl, fun i h1 h2 => absurd h2 (Nat.not_lt.mpr h1), fun b o e _ => ?_, fun b e => ?_⟩
  · rw [upd_ne (ne_of_none e hp)]; exact e
  · unfold upd at e
    split at e
    · cases e
    · exact e
theorem Rel.at_ne (R : Rel K ι h H) (hi : i < h.length) (hp : H p = none) : ι i ≠ p := fun e => by
  have q := R.mut hi
  rw [e, hp] at q
  exact q
theorem Rel.tup (R : Rel K ι h H) (hp : H p = none) (x : Ext ι h.length H ι h.length (upd H p ho)) : Rel K ι h (upd H p ho) := by
  refine ⟨R.inj, fun i o e => ?_⟩
  have hi : i < h.length := (List.getElem?_eq_some_iff.mp e).1
  exact RO.mono (H0 := H) (x.grow R) (upd_ne (R.at_ne hi hp)) (R.ob i o e)
/-- a new thing of the abstract heap -/
theorem Ext.new (hp : H p = none) : Ext ι n H (ιset ι n p) (n + 1) (upd H p ho) := by
  refine ⟨Nat.le_succ _, fun i hi => ιset_lt hi, fun i h1 h2 => ?_, fun b o e _ => ?_, fun b e => ?_⟩
  · have e : i = n := by omega
    rw [e, ιset_same]; exact hp
  · rw [upd_ne (ne_of_none e hp)]; exact e
  · unfold upd at e
    split at e
    · cases e
    · exact e
theorem Rel.new (R : Rel K ι h H) (hp : H p = none) (hn : Ext ι h.length H (ιset ι h.length p) (h.length + 1) (upd H p ho) → RO K (ιset ι h.length p) (h.length + 1) (upd H p ho) o p) : Rel K (ιset ι h.length p) (h ++ [o]) (upd H p ho) := by
  have x : Ext ι h.length H (ιset ι h.length p) (h.length + 1) (upd H p ho) := Ext.new hp
  refine ⟨fun i j hi hj e => ?_, fun i o' e => ?_⟩
  · simp only [List.length_append, List.length_cons, List.length_nil] at hi hj
    by_cases h1 : i = h.length
    · by_cases h2 : j = h.length
      · rw [h1, h2]
      · rw [h1, ιset_same, ιset_ne h2] at e
        exact absurd e.symm (R.at_ne (by omega) hp)
    · by_cases h2 : j = h.length
      · rw [h2, ιset_same, ιset_ne h1] at e
        exact absurd e (R.at_ne (by omega) hp)
      · rw [ιset_ne h1, ιset_ne h2] at e
        exact R.inj i j (by omega) (by omega) e
  · simp only [List.length_append, List.length_cons, List.length_nil]
    by_cases h1 : i < h.length
    · rw [List.getElem?_append_left h1] at e
      have q := R.ob i o' e
      rw [ιset_lt h1]
      exact RO.mono (H0 := H) (x.grow R) (upd_ne (R.at_ne h1 hp)) q
    · have hi : i = h.length := by
        have := (List.getElem?_eq_some_iff.mp e).1
        simp only [List.length_append, List.length_cons, List.length_nil] at this
        omega
      subst hi
      rw [List.getElem?_append_right (Nat.le_refl _)] at e
      simp only [Nat.sub_self, List.getElem?_cons_zero, Option.some.injEq] at e
      subst e
      rw [ιset_same]
      exact hn x
/-- a thing changed -/
theorem Ext.put (R : Rel K ι h H) (hi : i < h.length) : Ext ι h.length H ι h.length (upd H (ι i) ho) := by
  refine ⟨Nat.le_refl _, fun _ _ => rfl, fun j h1 h2 => absurd h2 (Nat.not_lt.mpr h1), fun b o e hb => ?_, fun b e => ?_⟩
  · rw [upd_ne (Ne.symm (hb i hi))]; exact e
  · unfold upd at e
    split at e
    · cases e
    · exact e
theorem Rel.put (R : Rel K ι h H) (hi : i < h.length) (hn : Ext ι h.length H ι h.length (upd H (ι i) ho) → RO K ι h.length (upd H (ι i) ho) o (ι i)) : Rel K ι (h.set i o) (upd H (ι i) ho) := by
  have x : Ext ι h.length H ι h.length (upd H (ι i) ho) := Ext.put R hi
  refine ⟨fun a b ha hb => R.inj a b (by simpa using ha) (by simpa using hb), fun j o' e => ?_⟩
  rw [List.length_set]
  by_cases hj : i = j
  · subst hj
    rw [List.getElem?_set_self hi] at e
    simp only [Option.some.injEq] at e
    subst e
    exact hn x
  · rw [List.getElem?_set_ne hj] at e
    have hjl : j < h.length := (List.getElem?_eq_some_iff.mp e).1
    have q := R.ob j o' e
    exact RO.mono (H0 := H) (x.grow R) (upd_ne fun z => hj (R.inj i j hi hjl z.symm)) q
/-- a list that the abstract heap does not know is laid there -/
theorem Rel.take (R : Rel K ι h H) (hD : H p = some (.lst xs)) (hne : ∀ i, i < h.length → ι i ≠ p) (r : RDs K ι h.length H ds xs) : Rel K (ιset ι h.length p) (h ++ [.lst ds]) H := by
  have g : Grow K ι h.length H (ιset ι h.length p) (h.length + 1) H := ⟨Nat.le_succ _, fun i hi => ιset_lt hi, fun _ _ q => q, fun _ _ q => q, fun _ _ q => q⟩
  refine ⟨fun i j hi hj e => ?_, fun i o' e => ?_⟩
  · simp only [List.length_append, List.length_cons, List.length_nil] at hi hj
    by_cases h1 : i = h.length
    · by_cases h2 : j = h.length
      · rw [h1, h2]
      · rw [h1, ιset_same, ιset_ne h2] at e
        exact absurd e.symm (hne j (by omega))
    · by_cases h2 : j = h.length
      · rw [h2, ιset_same, ιset_ne h1] at e
        exact absurd e (hne i (by omega))
      · rw [ιset_ne h1, ιset_ne h2] at e
        exact R.inj i j (by omega) (by omega) e
  · simp only [List.length_append, List.length_cons, List.length_nil]
    by_cases h1 : i < h.length
    · rw [List.getElem?_append_left h1] at e
      rw [ιset_lt h1]
      exact RO.mono (H0 := H) g rfl (R.ob i o' e)
    · have hi : i = h.length := by
        have := (List.getElem?_eq_some_iff.mp e).1
        simp only [List.length_append, List.length_cons, List.length_nil] at this
        omega
      subst hi
      rw [List.getElem?_append_right (Nat.le_refl _)] at e
      simp only [Nat.sub_self, List.getElem?_cons_zero, Option.some.injEq] at e
      subst e
      rw [ιset_same]
      exact ⟨xs, hD, r.mono g⟩
end
/-- a target that stores to the slots vs alone -/
def OnlyAt (t : TG) (vs : List Nat) : Prop := ∀ v σ H Q, t v σ H Q → t v σ H fun σ' H' => L2.wipe σ' vs = L2.wipe σ vs ∧ Q σ' H'
theorem wipe_set {σ : L2.St} {i : Nat} {x : Option V} : ∀ {vs : List Nat}, i ∈ vs → L2.wipe (σ.set i x) vs = L2.wipe σ vs
  | v :: vs, h => by
    unfold L2.wipe
    by_cases hv : i = v
    · subst hv
      by_cases hm : i ∈ vs
      · rw [wipe_set hm]
      · have : ∀ vs : List Nat, L2.wipe (List.set σ i x) vs = List.set (L2.wipe σ vs) i (if i ∈ vs then none else x) ∨ True := fun _ => .inr trivial
        have key : ∀ vs : List Nat, i ∉ vs → L2.wipe (List.set σ i x) vs = List.set (L2.wipe σ vs) i x := by
          intro vs
          induction vs with
          | nil => intro _; rfl
          | cons w ws ih =>
            intro hn
            have h1 : i ≠ w := fun e => hn (by rw [e]; exact List.mem_cons_self)
            have h2 : i ∉ ws := fun e => hn (List.mem_cons_of_mem _ e)
            unfold L2.wipe
            rw [ih h2, List.set_comm _ _ h1]
        rw [key vs hm, List.set_set]
    · have hm : i ∈ vs := by
        rcases List.mem_cons.mp h with e | e
        · exact absurd e hv
        · exact e
      rw [wipe_set hm]
theorem wipe_wipe {σ : L2.St} {vs : List Nat} : ∀ {ws : List Nat}, (∀ i ∈ ws, i ∈ vs) → L2.wipe (L2.wipe σ ws) vs = L2.wipe σ vs
  | [], _ => rfl
  | w :: ws, h => by
    show L2.wipe (List.set (L2.wipe σ ws) w none) vs = _
    rw [wipe_set (h w List.mem_cons_self)]
    exact wipe_wipe fun i hi => h i (List.mem_cons_of_mem _ hi)
theorem OnlyAt.at_ {t : TG} {vs : List Nat} (o : OnlyAt t vs) {v : V} {σ W : L2.St} {H : Hp} {Q : L2.St → Hp → Prop} (h : L2.wipe σ vs = W) (q : t v σ H Q) : t v σ H fun σ' H' => L2.wipe σ' vs = W ∧ Q σ' H' := by
  subst h
  exact o v σ H Q q
def MGc (C : Ct) (tg : Expr) (g : GM) (t : TG) (vs : List Nat) : Prop := PG C.X tg t ∧ SimG C t g ∧ OnlyAt t vs
def MGcs (C : Ct) (tg : List Expr) (g : List D → AE → AH → SR) (t : TGs) (vs : List Nat) : Prop := PGs C.X tg t ∧ SimGs C t g ∧ ∀ v σ H Q, t v σ H Q → t v σ H fun σ' H' => L2.wipe σ' vs = L2.wipe σ vs ∧ Q σ' H'
section
variable {C : Ct} {pos : Pos} {vs : List Nat}
theorem mgc_var {i : Nat} {x : Str} (hN : C.X.N.Nodup) (hi : C.X.N[i]? = some x) (hx : Loc C.X.env.scope x) (hv : i ∈ vs) (hne : ∀ y, C.ea = some y → y.i ≠ i := by exact fun _ z => nomatch z) (hf : C.X.fn x = true ∨ C.X.env.scope.names.lookup x = some .local := by first | exact .inl rfl | exact .inr rfl | assumption) : MGc C (.Name x pos) (gVar i) (gName i) vs :=
  ⟨pg_name hN hi hx hf, ⟨fun d v env h σ H ι Q R V r p => p ι H _ .refl R (V.set i r hne)⟩, fun v σ H Q q => ⟨wipe_set hv, q⟩⟩
theorem mgcs_nil : MGcs C [] gNils L2.gNil vs := by
  refine ⟨pgs_nil, ⟨fun ds vs env h σ H ι Q R V r p => ?_⟩, fun v σ H Q q => ⟨q.1, rfl, q.2⟩⟩
  cases ds with
  | nil => exact ⟨RDs.nil.mp r, p ι H σ .refl R V⟩
  | cons _ _ => exact (show False from p).elim
theorem mgcs_cons {e : Expr} {es : List Expr} {g : GM} {r : List D → AE → AH → SR} {t : TG} {u : TGs} (h1 : MGc C e g t vs) (h2 : MGcs C es r u vs) (hs : (assignEach (e :: es) C.X.env).map (·.2) = assign e C.X.env :: (assignEach es C.X.env).map (·.2) := by rfl)
    (mono : ∀ v σ H (Q Q' : List (Option V) → Hp → Prop), (∀ a b, Q a b → Q' a b) → t v σ H Q → t v σ H Q') : MGcs C (e :: es) (gCons g r) (L2.gCons t u) vs := by
  obtain ⟨p, s1, o1⟩ := h1
  obtain ⟨p', s2, o2⟩ := h2
  refine ⟨pgs_cons p p' hs, ⟨fun ds vs env h σ H ι Q R V rr pp => ?_⟩, fun v σ H Q q => ?_⟩
  · cases ds with
    | nil => exact (show False from pp).elim
    | cons d ds =>
      obtain ⟨v, vr, rfl, r1, r2⟩ := RDs.cons.mp rr
      refine ⟨v, vr, rfl, ?_⟩
      obtain ⟨e1, h1, eg, pq⟩ := SR.then_only pp
      refine s1.run d v env h σ H ι _ R V r1 ?_
      rw [eg]
      exact fun ι' H' σ' x R' V' => s2.run ds vr e1 h1 σ' H' ι' Q R' V' (r2.mono (x.grow R)) (PostS.shift pq x)
  · obtain ⟨x, r, rfl, q⟩ := q
    refine ⟨x, r, rfl, ?_⟩
    refine mono _ _ _ _ _ (fun a b hq => ?_) (o1 _ _ _ _ q)
    obtain ⟨e1, q1⟩ := hq
    have := o2 r a b Q q1
    rw [e1] at this
    exact this
theorem mono_name {i : Nat} : ∀ v σ H (Q Q' : List (Option V) → Hp → Prop), (∀ a b, Q a b → Q' a b) → gName i v σ H Q → gName i v σ H Q' := fun _ _ _ _ _ f q => f _ _ q
theorem mgc_tup {es : List Expr} {kk k : Nat} {r : List D → AE → AH → SR} {u : TGs} (hc : C.X.calm = true) (h : MGcs C es r u vs) (hn : (assignEach es C.X.env).length = k := by rfl) (hst : (assignEach es C.X.env).findIdx? (·.1) = none := by rfl) : MGc C (.Tuple es kk pos) (gTup k r) (L2.gTup C.X.K k u) vs := by
  obtain ⟨p, s1, o1⟩ := h
  refine ⟨pg_tup hc p hn hst, ⟨fun d v env h σ H ι Q R V rr pp => ?_⟩, fun v σ H Q q => ?_⟩
  · cases d with
    | tup ds =>
      obtain ⟨a, vs, rfl, q, r2⟩ := RD.tup.mp rr
      unfold gTup at pp
      dsimp only at pp
      by_cases hk : ds.length = k
      · rw [if_pos hk] at pp
        exact ⟨a, vs, rfl, q, by rw [← r2.length]; exact hk, s1.run ds vs env h σ H ι Q R V r2 pp⟩
      · rw [if_neg hk] at pp; exact (show False from pp).elim
    | _ => exact (show False from pp).elim
  · obtain ⟨a, xs, e, hq, l, q⟩ := q
    exact ⟨a, xs, e, hq, l, o1 _ _ _ _ q⟩
end
/-- a comprehension's tests -/
def MTs (C : Ct) (es : List Expr) (m : EM) : Prop := ∃ t, PTs C.X es t ∧ SimT C t m
theorem mts_nil {C : Ct} : MTs C [] (eC (.bl true)) := ⟨_, pts_nil, ⟨fun env h σ H ι Q R V p => by
  obtain ⟨b, e, p⟩ := p
  cases e
  exact p ι H .refl R⟩⟩
theorem mts_one {C : Ct} {c : Expr} {m : EM} (h : MT C c m) : MTs C [c] m := by
  obtain ⟨t, p, s⟩ := h
  exact ⟨t, pts_one p, s⟩
theorem MTs.can {C : Ct} {e : List Expr} {m : EM} (h : MTs C e m) : PTs C.X e (canT C m) := by
  obtain ⟨t, p, s⟩ := h
  exact ⟨fun pins st σ H Q I ⟨env, h, ι, R, V, q⟩ => p.run pins st σ H Q I (s.run env h σ H ι Q R V q)⟩
section
variable {C : Ct} {elt tg iter : Expr} {ifs : List Expr} {scope : Scope} {own : List (Str × Nat)} {pos : Pos} {mi : IM} {g : GM} {t : TG} {mt me : EM}
theorem SimE.lc {ti : TI} (si : SimI C ti mi) (sg : ∀ s H Cc cl fp, SimG (C.blk s H scope Cc cl fp) t g ∧ OnlyAt t (own.map (·.2))) : SimE C (tLc ti t (canT C.flat mt) (canE C.flat me) (own.map (·.2))) (eLc mi g mt me (own.map (·.2))) := by
  refine ⟨fun env h σ H ι Q R V p => ?_⟩
  refine si.run env h σ H ι _ R V ?_
  unfold eLc at p
  cases hm : mi env h with
  | ok it h1 =>
    rw [hm] at p
    dsimp only at p
    refine fun ι0 H0 J x0 R0 J0 Dp hD => ?_
    have V0 := V.ext R x0
    cases hl : lcN it g mt me (wipeE env (own.map (·.2))) (it.n + 1) 0 [] h1 with
    | inl o => rw [hl] at p; exact (show False from p).elim
    | inr pr =>
      obtain ⟨accF, h2⟩ := pr
      rw [hl] at p
      dsimp only at p
      refine ⟨fun i m H => ∃ h ι acc xs, Ext ι0 h1.length H0 ι h.length H ∧ Rel C.X.K ι h H ∧ RE C.X.K ι h.length H (wipeE env (own.map (·.2))) (L2.wipe σ (own.map (·.2))) ∧ H Dp = some (.lst xs) ∧ RDs C.X.K ι h.length H acc xs ∧ (∀ i, i < h.length → ι i ≠ Dp) ∧
        lcN it g mt me (wipeE env (own.map (·.2))) m i acc h = .inr (accF, h2), ⟨it.n + 1, h1, ι0, [], [], Ext.tup hD, Rel.tup R0 hD (Ext.tup hD), (V0.re.wipe _).mono ((Ext.tup hD).grow R0), upd_same, RDs.nil', fun i hi => R0.at_ne hi hD, hl⟩, ?_⟩
      rintro i m H ⟨h, ι', acc, xs, x, R, E, hDl, ra, hne, hq⟩
      cases m with
      | zero => cases hq
      | succ m =>
        obtain ⟨j1, j2⟩ := J0 i ι' h H x R
        unfold lcN at hq
        cases hn : it.nxt i h with
        | none => rw [hn] at hq; cases hq
        | some od =>
          rw [hn] at hq
          cases od with
          | none =>
            refine .inl ⟨j1 hn, ?_⟩
            dsimp only at hq
            cases hq
            have e1 : ((h2 ++ [AO.lst accF]).length) = h2.length + 1 := by simp
            refine p (ιset ι' h2.length Dp) H (.ref Dp) ?_ (R.take hDl hne ra) ?_
            · have hle := x.le
              have hle0 := x0.le
              rw [e1]
              refine ⟨by omega, fun j hj => ?_, fun j j1 j2 => ?_, fun b o e hb => ?_, fun b e => x0.st b (x.st b e)⟩
              · rw [ιset_lt (by omega), x.ag j (by omega), x0.ag j hj]
              · by_cases hj : j = h2.length
                · rw [hj, ιset_same]; exact x0.st _ hD
                · rw [ιset_ne hj]; exact (x0.trans x).nw j j1 (by omega)
              · exact (x0.trans x).fr b o e hb
            · rw [e1]
              exact RD.ref.mpr ⟨Nat.lt_succ_self _, by rw [ιset_same]⟩
          | some d =>
            dsimp only at hq
            obtain ⟨go, y⟩ := j2 d hn
            refine .inr ⟨go, _, fun H' hN => ⟨m, Nat.lt_succ_self m, hN⟩, fun xv H2 hy => ?_⟩
            obtain ⟨ι2, x2, R2, r2⟩ := y xv H2 hy
            have hD2 : H2 Dp = some (.lst xs) := x2.fr Dp _ hDl hne
            have hne2 : ∀ i, i < h.length → ι2 i ≠ Dp := fun i hi => by rw [x2.ag i hi]; exact hne i hi
            have E2 := E.mono (x2.grow R)
            have sgo := sg C.X.s_0 H2 0 [] []
            cases hgd : g d (wipeE env (own.map (·.2))) h with
            | nx e3 h3 =>
              rw [hgd] at hq
              dsimp only at hq
              refine sgo.2.at_ (wipe_wipe fun _ h => h) (sgo.1.run d xv _ h _ H2 ι2 _ R2 ⟨E2, trivial⟩ r2 ?_)
              rw [hgd]
              refine fun ι3 H3 σ3 x3 R3 V3 => ?_
              have hD3 : H3 Dp = some (.lst xs) := x3.fr Dp _ hD2 hne2
              have hne3 : ∀ i, i < h3.length → ι3 i ≠ Dp := fun i hi => by
                by_cases hlt : i < h.length
                · rw [x3.ag i hlt]; exact hne2 i hlt
                · intro e
                  have := x3.nw i (Nat.not_lt.mp hlt) hi
                  rw [e, hD2] at this; cases this
              have V3' : RV C.flat ι3 h3.length H3 e3 σ3 := ⟨V3.re, trivial⟩
              refine ⟨e3, h3, ι3, R3, V3', ?_⟩
              cases htt : mt e3 h3 with
              | ok db h4 =>
                rw [htt] at hq
                cases db with
                | bl b =>
                  refine ⟨b, rfl, fun ι4 H4 x4 R4 => ?_⟩
                  have hD4 : H4 Dp = some (.lst xs) := x4.fr Dp _ hD3 hne3
                  have hne4 : ∀ i, i < h4.length → ι4 i ≠ Dp := fun i hi => by
                    by_cases hlt : i < h3.length
                    · rw [x4.ag i hlt]; exact hne3 i hlt
                    · intro e
                      have := x4.nw i (Nat.not_lt.mp hlt) hi
                      rw [e, hD3] at this; cases this
                  have xx := x2.trans (x3.trans x4)
                  cases b with
                  | true =>
                    dsimp only at hq
                    refine iteT ?_
                    refine ⟨e3, h4, ι4, R4, V3'.ext R3 x4, ?_⟩
                    cases hte : me e3 h4 with
                    | ok d5 h5 =>
                      rw [hte] at hq
                      dsimp only at hq
                      by_cases hz : FitsL acc.length
                      · rw [if_pos hz] at hq
                        refine fun ι5 H5 v5 x5 R5 r5 => ?_
                        have hD5 : H5 Dp = some (.lst xs) := x5.fr Dp _ hD4 hne4
                        have hne5 : ∀ i, i < h5.length → ι5 i ≠ Dp := fun i hi => by
                          by_cases hlt : i < h4.length
                          · rw [x5.ag i hlt]; exact hne4 i hlt
                          · intro e
                            have := x5.nw i (Nat.not_lt.mp hlt) hi
                            rw [e, hD4] at this; cases this
                        have x25 := xx.trans x5
                        refine ⟨xs, hD5, by rw [← ra.length]; exact hz, h5, ι5, acc ++ [d5], xs ++ [v5], ?_, ?_, ?_, upd_same, ?_, hne5, hq⟩
                        · have xa := x.trans x25
                          refine ⟨xa.le, xa.ag, xa.nw, fun b o e hb => ?_, fun b e => ?_⟩
                          · have hbD : b ≠ Dp := ne_of_none e hD
                            rw [upd_ne hbD]; exact xa.fr b o e hb
                          · by_cases hb : b = Dp
                            · subst hb; rw [upd_same] at e; cases e
                            · rw [upd_ne hb] at e; exact xa.st b e
                        all_goals
                          have gg : Grow C.X.K ι5 h5.length H5 ι5 h5.length (upd H5 Dp (.lst (xs ++ [v5]))) := ⟨Nat.le_refl _, fun _ _ => rfl, fun a vs q => by rw [upd_ne (ne_of q hD5 (by intro z; cases z))]; exact q, fun a vs q => by
                              rcases q with ⟨o, q⟩ | q
                              · exact .inl ⟨o, by rw [upd_ne (ne_of q hD5 (by intro z; cases z))]; exact q⟩
                              · exact .inr q, fun a vs q => by
                              obtain ⟨o, q, dn⟩ := q
                              exact ⟨o, by rw [upd_ne (ne_of q hD5 (by intro z; cases z))]; exact q, dn⟩⟩
                        · refine ⟨R5.inj, fun i o e => ?_⟩
                          have hi : i < h5.length := (List.getElem?_eq_some_iff.mp e).1
                          exact RO.mono (H0 := H5) gg (upd_ne (hne5 i hi)) (R5.ob i o e)
                        · exact ((E2.mono (x3.grow R2)).mono ((x4.trans x5).grow R3)).mono gg
                        · exact RDs.append ((ra.mono (x25.grow R)).mono gg) (RDs.cons' (r5.mono gg) RDs.nil')
                      · rw [if_neg hz] at hq; cases hq
                    | exc c fs h5 => rw [hte] at hq; cases hq
                    | stuck => rw [hte] at hq; cases hq
                  | false =>
                    dsimp only at hq
                    refine iteF ?_
                    exact ⟨h4, ι4, acc, xs, x.trans xx, R4, (E2.mono (x3.grow R2)).mono (x4.grow R3), hD4, ra.mono (xx.grow R), hne4, hq⟩
                | _ => cases hq
              | exc c fs h4 => rw [htt] at hq; cases hq
              | stuck => rw [htt] at hq; cases hq
            | _ => rw [hgd] at hq; cases hq
  | exc c fs h1 => rw [hm] at p; exact p
  | stuck => rw [hm] at p; exact p
end
end Rf

set_option maxHeartbeats 1000000
namespace Rf
open PySem PySem.Spec PyProof.Rows L2

section
variable {C : Ct} {elt tg iter : Expr} {ifs : List Expr} {scope : Scope} {own : List (Str × Nat)} {pos : Pos} {mi : IM} {g : GM} {t : TG} {mt me : EM}
theorem me_lc (hc : C.X.calm = true) (hN : C.X.N.Nodup) (hi : MI C tg iter mi) (ok : BlkOk C.X.N C.X.env.scope scope own)
    (hg : ∀ s H Cc cl fp, MGc (C.blk s H scope Cc cl fp) tg g t (own.map (·.2)))
    (ht : ∀ s H Cc cl fp, MTs (C.blk s H scope Cc cl fp) ifs mt) (he : ∀ s H Cc cl fp, ME (C.blk s H scope Cc cl fp) elt me) (hs : ∀ x, foldedSetIterable iter C.X.env x = pure x := by intro _; rfl) :
    ME C (.ListComp elt [⟨tg, iter, ifs, 0⟩] scope pos) (eLc mi g mt me (own.map (·.2))) := by
  obtain ⟨ti, pi, si⟩ := hi
  exact ⟨_, pe_lc hc hN pi ok (fun s H Cc cl fp => (hg s H Cc cl fp).1) (fun s H Cc cl fp => (ht s H Cc cl fp).can) (fun s H Cc cl fp => (he s H Cc cl fp).can) hs, SimE.lc si fun s H Cc cl fp => (hg s H Cc cl fp).2⟩
theorem ms_setLc {i : Nat} {y : Str} {py spos : Pos} (hc : C.X.calm = true) (hN : C.X.N.Nodup) (hy : C.X.N[i]? = some y) (hyl : C.X.env.scope.names.lookup y = some .local)
    (hsw : swapsWith (.ListComp elt [⟨tg, iter, ifs, 0⟩] scope pos) (some (.Name y py)) spos.line C.X.env = pure true) (hi : MI C tg iter mi) (ok : BlkOk C.X.N C.X.env.scope scope own)
    (hg : ∀ s H Cc cl fp, MGc (C.blk s H scope Cc cl fp) tg g t (own.map (·.2)))
    (ht : ∀ s H Cc cl fp, MTs (C.blk s H scope Cc cl fp) ifs mt) (he : ∀ s H Cc cl fp, ME (C.blk s H scope Cc cl fp) elt me) (hne : ∀ y, C.ea = some y → y.i ≠ i := by exact fun _ z => nomatch z) (hs : ∀ x, foldedSetIterable iter C.X.env x = pure x := by intro _; rfl) :
    MS C (.Assign [.Name y py] (.ListComp elt [⟨tg, iter, ifs, 0⟩] scope pos) spos) (sSet i (eLc mi g mt me (own.map (·.2)))) := by
  obtain ⟨ti, pi, si⟩ := hi
  refine ⟨_, ps_setLc (te := canE C.flat me) (tt := canT C.flat mt) hc hN hy hyl hsw pi ok (fun s H Cc cl fp => (hg s H Cc cl fp).1) (fun s H Cc cl fp => (ht s H Cc cl fp).can) (fun s H Cc cl fp => (he s H Cc cl fp).can) hs, ⟨fun env h σ H ι D R V p => ?_⟩⟩
  have s1 : SimE C _ (eLc mi g mt me (own.map (·.2))) := SimE.lc si fun s H Cc cl fp => (hg s H Cc cl fp).2
  exact s1.thenS R V p fun d h1 ι1 H1 v1 x1 R1 V1 r1 p1 => p1 ι1 H1 _ .refl R1 (V1.set i r1 hne)
end

/-! ### no numbers within -/
mutual
def D.pure : D → Bool
  | .ref _ => false
  | .tup ds => pures ds
  | .rol ds => pures ds
  | .kt ds => pures ds
  | .non => true
  | .bl _ => true
  | .int _ => true
  | .str _ => true
  | .ty _ => true
def pures : List D → Bool
  | [] => true
  | d :: ds => d.pure && pures ds
end
def AO.flat : AO → Bool
  | .lst ds => pures ds
  | .dK kvs => pures (kvs.map (·.2))
  | .dT kvs => pures (kvs.map (·.2))
  | .lk kvs _ _ => pures (kvs.map (·.2))
theorem pures_iff : ∀ {ds : List D}, pures ds = true ↔ ∀ d ∈ ds, d.pure = true
  | [] => by simp [pures]
  | d :: ds => by simp [pures, pures_iff (ds := ds)]
mutual
def D.lt_ (n : Nat) : D → Prop
  | .ref i => i < n
  | .tup ds => lts_ n ds
  | .rol ds => lts_ n ds
  | .kt ds => lts_ n ds
  | .non => True
  | .bl _ => True
  | .int _ => True
  | .str _ => True
  | .ty _ => True
def lts_ (n : Nat) : List D → Prop
  | [] => True
  | d :: ds => d.lt_ n ∧ lts_ n ds
end
section
variable {K : PySem.W.Frag} {ι ι' : Nat → Addr} {n n' : Nat} {H H' : Hp} {h h' : AH} {d : D} {ds : List D} {v : V} {vs : List V}
mutual
theorem RD.lt_ : ∀ {d : D} {v : V}, RD K ι n H d v → d.lt_ n
  | .ref i, v, r => (RD.ref.mp r).1
  | .tup ds, v, r => by obtain ⟨_, _, _, _, r⟩ := RD.tup.mp r; exact RDs.below r
  | .rol ds, v, r => by obtain ⟨_, _, _, _, r⟩ := RD.rol.mp r; exact RDs.below r
  | .kt ds, v, r => by obtain ⟨_, _, _, _, r⟩ := RD.kt.mp r; exact RDs.below r
  | .non, _, _ => trivial
  | .bl _, _, _ => trivial
  | .int _, _, _ => trivial
  | .str _, _, _ => trivial
  | .ty _, _, _ => trivial
theorem RDs.below : ∀ {ds : List D} {vs : List V}, RDs K ι n H ds vs → lts_ n ds
  | [], _, _ => trivial
  | d :: ds, vs, r => by
    obtain ⟨v, r', _, h1, h2⟩ := RDs.cons.mp r
    exact ⟨RD.lt_ h1, RDs.below h2⟩
end
mutual
theorem D.pure_lt : ∀ {d : D}, d.pure = true → d.lt_ n
  | .ref i, r => by cases r
  | .tup ds, r => pures_lt (by unfold D.pure at r; exact r)
  | .rol ds, r => pures_lt (by unfold D.pure at r; exact r)
  | .kt ds, r => pures_lt (by unfold D.pure at r; exact r)
  | .non, _ => trivial
  | .bl _, _ => trivial
  | .int _, _ => trivial
  | .str _, _ => trivial
  | .ty _, _ => trivial
theorem pures_lt : ∀ {ds : List D}, pures ds = true → lts_ n ds
  | [], _ => trivial
  | d :: ds, r => by
    unfold pures at r
    simp only [Bool.and_eq_true] at r
    exact ⟨D.pure_lt r.1, pures_lt r.2⟩
end
mutual
/-- numbers below n alone matter -/
theorem RD.cut (ag : ∀ i, i < n → ι' i = ι i) : ∀ {d : D} {v : V}, RD K ι n' H d v → d.lt_ n → RD K ι' n H d v
  | .ref i, v, r, b => RD.ref.mpr ⟨b, by rw [ag i b]; exact (RD.ref.mp r).2⟩
  | .tup ds, v, r, b => by
    obtain ⟨a, vs, e, q, r⟩ := RD.tupX.mp r
    exact RD.tupX.mpr ⟨a, vs, e, q, RDs.cut ag r (by unfold D.lt_ at b; exact b)⟩
  | .rol ds, v, r, b => by
    obtain ⟨a, vs, e, q, r⟩ := RD.rol.mp r
    exact RD.rol.mpr ⟨a, vs, e, q, RDs.cut ag r (by unfold D.lt_ at b; exact b)⟩
  | .kt ds, v, r, b => by
    obtain ⟨a, vs, e, q, r⟩ := RD.kt.mp r
    exact RD.kt.mpr ⟨a, vs, e, q, RDs.cut ag r (by unfold D.lt_ at b; exact b)⟩
  | .non, _, r, _ => by unfold RD at r ⊢; exact r
  | .bl _, _, r, _ => by unfold RD at r ⊢; exact r
  | .int _, _, r, _ => by unfold RD at r ⊢; exact r
  | .str _, _, r, _ => by unfold RD at r ⊢; exact r
  | .ty _, _, r, _ => by unfold RD at r ⊢; exact r
theorem RDs.cut (ag : ∀ i, i < n → ι' i = ι i) : ∀ {ds : List D} {vs : List V}, RDs K ι n' H ds vs → lts_ n ds → RDs K ι' n H ds vs
  | [], _, r, _ => by unfold RDs at r ⊢; exact r
  | d :: ds, vs, r, b => by
    obtain ⟨v, r', e, h1, h2⟩ := RDs.cons.mp r
    exact RDs.cons.mpr ⟨v, r', e, RD.cut ag h1 b.1, RDs.cut ag h2 b.2⟩
end
def AO.lt_ (n : Nat) : AO → Prop
  | .lst ds => lts_ n ds
  | .dK kvs => lts_ n (kvs.map (·.2))
  | .dT kvs => lts_ n (kvs.map (·.2))
  | .lk kvs _ _ => lts_ n (kvs.map (·.2))
theorem AO.flat_lt {o : AO} (f : o.flat = true) : o.lt_ n := by
  cases o <;> exact pures_lt f
theorem RO.below {o : AO} {a : Addr} (r : RO K ι n H o a) : o.lt_ n := by
  cases o with
  | lst ds => obtain ⟨_, _, r⟩ := r; exact r.below
  | dK ds => obtain ⟨_, _, _, r⟩ := r; exact r.below
  | dT ds => obtain ⟨_, _, _, r⟩ := r; exact r.below
  | lk ds od ws => obtain ⟨_, _, r⟩ := r; exact r.below
theorem RO.cut (ag : ∀ i, i < n → ι' i = ι i) {o : AO} {a : Addr} (r : RO K ι n' H o a) (b : o.lt_ n) : RO K ι' n H o a := by
  cases o with
  | lst ds => obtain ⟨vs, e, r⟩ := r; exact ⟨vs, e, r.cut ag b⟩
  | dK ds => obtain ⟨vs, e, k, r⟩ := r; exact ⟨vs, e, k, r.cut ag b⟩
  | dT ds => obtain ⟨vs, e, k, r⟩ := r; exact ⟨vs, e, k, r.cut ag b⟩
  | lk ds od ws => obtain ⟨e, k, r⟩ := r; exact ⟨e, k, r.cut ag b⟩
end

/-! ### what a def leaves: its own things are dropped where nothing leads to them -/
/-- the things of h stand as they stood, or are flat -/
def Keep (h h' : AH) : Prop := h.length ≤ h'.length ∧ ∀ i o, i < h.length → h'[i]? = some o → h[i]? = some o ∨ o.flat = true
open Classical in
noncomputable def gc (h : AH) (o : ER) : ER := match o with
  | .ok d h' => if Keep h h' then (if d.pure = true then .ok d (h'.take h.length) else match d with
      | .ref i => if h.length ≤ i ∧ ∃ o, h'[i]? = some o ∧ o.flat = true then .ok (.ref h.length) (h'.take h.length ++ (h'[i]?).toList) else .ok d h'
      | _ => .ok d h') else .ok d h'
  | r => r
theorem gc_pure {h h' : AH} {d : D} (k : Keep h h') (p : d.pure = true) : gc h (.ok d h') = .ok d (h'.take h.length) := by
  unfold gc
  simp only [if_pos k, if_pos p]
theorem gc_list {h h' : AH} {i : Nat} {o : AO} (k : Keep h h') (hi : h.length ≤ i) (e : h'[i]? = some o) (f : o.flat = true) : gc h (.ok (.ref i) h') = .ok (.ref h.length) (h'.take h.length ++ [o]) := by
  unfold gc
  simp only [if_pos k]
  rw [if_neg (by unfold D.pure; exact Bool.false_ne_true), if_pos ⟨hi, o, e, f⟩, e]
  rfl
/-- the end of a def's body as the end of its call -/
def outS (r : SR) : ER := match r with
  | .rt d h => .ok d h
  | .nx _ h => .ok .non h
  | .exc c fs _ h => .exc c fs h
  | _ => .stuck
/-- a def of N slots, by its body -/
noncomputable def fsem (N : Nat) (m : SM) : List D → AH → ER := fun ds h => gc h (outS (m (ds.map some ++ List.replicate (N - ds.length) none) h))

def PostF (K : PySem.W.Frag) (mg : Str → Option Value) (ι : Nat → Addr) (n : Nat) (H : Hp) (o : ER) (Q : VK) (E : XK) : Prop := match o with
  | .ok d h' => ∀ ι' H' v, Ext ι n H ι' h'.length H' → Rel K ι' h' H' → RD K ι' h'.length H' d v → Q v H'
  | .exc c fs h' => ∀ ι' H' Cl dd, Ext ι n H ι' h'.length H' → Rel K ι' h' H' → mg c = some (.ref Cl) → XD K ι' h'.length H' dd fs → E (.ref Cl) dd H'
  | .stuck => False
/-- the promise of a def that does F -/
def spF (K : PySem.W.Frag) (mg : Str → Option Value) (pl : Nat) (F : List D → AH → ER) : Sp := fun vs H Q E => vs.length = pl ∧ ∃ ι h ds, Rel K ι h H ∧ RDs K ι h.length H ds vs ∧ PostF K mg ι h.length H (F ds h) Q E
section
variable {K : PySem.W.Frag} {mg : Str → Option Value} {ι ι' : Nat → Addr} {H H' : Hp} {h h' : AH} {Q : VK} {E : XK} {o : ER}
theorem PostF.gc (R0 : Rel K ι h H) (p : PostF K mg ι h.length H (Rf.gc h o) Q E) : PostF K mg ι h.length H o Q E := by
  cases o with
  | exc c fs h' => exact p
  | stuck => exact p
  | ok d h' =>
    by_cases k : Keep h h'
    · obtain ⟨kl, kk⟩ := k
      have lt : (h'.take h.length).length = h.length := by rw [List.length_take]; omega
      -- the first things alone
      have cutR : ∀ {ι' : Nat → Addr} {H' : Hp}, Ext ι h.length H ι' h'.length H' → Rel K ι' h' H' → Rel K ι' (h'.take h.length) H' := fun {ι' H'} x R => by
        refine ⟨fun i j hi hj => R.inj i j (by omega) (by omega), fun i o e => ?_⟩
        rw [lt]
        have hi : i < h.length := by have := (List.getElem?_eq_some_iff.mp e).1; omega
        rw [List.getElem?_take_of_lt hi] at e
        refine (R.ob i o e).cut (fun _ _ => rfl) ?_
        rcases kk i o hi e with e0 | f
        · exact (R0.ob i o e0).below
        · exact AO.flat_lt f
      have cutX : ∀ {ι' : Nat → Addr} {H' : Hp}, Ext ι h.length H ι' h'.length H' → Ext ι h.length H ι' h.length H' := fun {ι' H'} x =>
        ⟨Nat.le_refl _, x.ag, fun i h1 h2 => absurd h2 (Nat.not_lt.mpr h1), x.fr, x.st⟩
      by_cases hp : d.pure = true
      · rw [gc_pure ⟨kl, kk⟩ hp] at p
        refine fun ι' H' v x R r => p ι' H' v (by rw [lt]; exact cutX x) (cutR x R) ?_
        rw [lt]
        exact r.cut (fun _ _ => rfl) (D.pure_lt hp)
      · unfold Rf.gc at p
        simp only [if_pos (show Keep h h' from ⟨kl, kk⟩), if_neg hp] at p
        cases d with
        | ref i =>
          dsimp only at p
          by_cases hc : h.length ≤ i ∧ ∃ o, h'[i]? = some o ∧ o.flat = true
          · rw [if_pos hc] at p
            obtain ⟨hi, o, e, f⟩ := hc
            rw [e] at p
            refine fun ι' H' v x R r => ?_
            obtain ⟨hil, rfl⟩ := RD.ref.mp r
            have le : (h'.take h.length ++ [o]).length = h.length + 1 := by rw [List.length_append, lt]; rfl
            have ag : ∀ j, j < h.length → ιset ι' h.length (ι' i) j = ι' j := fun j hj => ιset_lt hj
            refine p (ιset ι' h.length (ι' i)) H' (.ref (ι' i)) ?_ ?_ ?_
            · rw [show (List.take (List.length h) h' ++ (some o).toList) = h'.take h.length ++ [o] from rfl, le]
              refine ⟨Nat.le_succ _, fun j hj => by rw [ag j hj]; exact x.ag j hj, fun j h1 h2 => ?_, x.fr, x.st⟩
              have ej : j = h.length := by omega
              rw [ej, ιset_same]
              exact x.nw i hi hil
            · show Rel K _ (h'.take h.length ++ [o]) H'
              have RT := cutR x R
              refine ⟨fun a b ha hb eab => ?_, fun j o' e' => ?_⟩
              · rw [le] at ha hb
                by_cases h1 : a = h.length
                · by_cases h2 : b = h.length
                  · rw [h1, h2]
                  · rw [h1, ιset_same, ιset_ne h2] at eab
                    have := R.inj i b hil (by omega) eab
                    omega
                · by_cases h2 : b = h.length
                  · rw [h2, ιset_same, ιset_ne h1] at eab
                    have := R.inj a i (by omega) hil eab
                    omega
                  · rw [ιset_ne h1, ιset_ne h2] at eab
                    exact R.inj a b (by omega) (by omega) eab
              · rw [le]
                by_cases h1 : j < h.length
                · rw [List.getElem?_append_left (by omega)] at e'
                  have q := RT.ob j o' e'
                  rw [lt] at q
                  rw [ag j h1]
                  exact RO.mono (H0 := H') ⟨Nat.le_succ _, ag, fun _ _ q => q, fun _ _ q => q, fun _ _ q => q⟩ rfl q
                · have ej : j = h.length := by have := (List.getElem?_eq_some_iff.mp e').1; omega
                  subst ej
                  rw [List.getElem?_append_right (by omega), lt] at e'
                  simp only [Nat.sub_self, List.getElem?_cons_zero, Option.some.injEq] at e'
                  subst e'
                  rw [ιset_same]
                  have q := R.ob i o e
                  refine RO.mono (H0 := H') (ι := ι') (n := h.length) ⟨Nat.le_succ _, ag, fun _ _ q => q, fun _ _ q => q, fun _ _ q => q⟩ rfl (q.cut (fun _ _ => rfl) (AO.flat_lt f))
            · show RD K _ (h'.take h.length ++ [o]).length H' _ _
              rw [le]
              exact RD.ref.mpr ⟨Nat.lt_succ_self _, by rw [ιset_same]⟩
          · rw [if_neg hc] at p; exact p
        | _ => exact p
    · unfold Rf.gc at p
      simp only [if_neg k] at p
      exact p
end

/-! ### a def -/
/-- the context of a def's body -/
abbrev ctOf (P : Program) (w : World) (K : PySem.W.Frag) (mg : Str → Option Value) (base : Heap) (N : List Str) (qual : Str) (scope : Scope) (f : Addr) (cdv : Value) (A : Around) (outer : List Env) (s : Shared) (H : Hp) (E : XK) : Ct :=
  ⟨cxOf (L2N.CX P w) P w K mg base N qual scope f cdv A outer s H E, fun cls d _ H => E cls d H, none⟩
theorem start_re {K : PySem.W.Frag} {ι : Nat → Addr} {n : Nat} {H : Hp} {ds : List D} {vs : List V} (N : Nat) (r : RDs K ι n H ds vs) : RE K ι n H (ds.map some ++ List.replicate (N - ds.length) none) (vs.map some ++ List.replicate (N - vs.length) none) := by
  have hl := r.length
  refine ⟨by simp [hl], fun i d e => ?_⟩
  by_cases hi : i < ds.length
  · rw [List.getElem?_append_left (by simpa using hi), List.getElem?_map] at e
    cases q : ds[i]? with
    | none => rw [q] at e; cases e
    | some d' =>
      rw [q] at e
      have e' : d' = d := by simpa using e
      subst e'
      obtain ⟨v, e2, r2⟩ := r.get q
      exact ⟨v, by rw [List.getElem?_append_left (by simp; omega), List.getElem?_map, e2]; rfl, r2⟩
  · rw [List.getElem?_append_right (by simpa using hi)] at e
    have := List.mem_of_getElem? e
    rw [List.mem_replicate] at this
    cases this.2
theorem fn_ok {P : Program} {w : World} {K : PySem.W.Frag} {mg : Str → Option Value} {base : Heap} {x qual : Str} {st : Stmt} {f : Addr} {fd : FuncData} {N ps : List Str} {k n pl : Nat} {m : SM} (F : Fun K x qual st f fd) (S : FnScope N ps (defScope st)) (hN : N.length = n) (hp : ps.length = pl)
    (hm : ∀ cdv A outer s H E, Room k (A.deeper (envOfC qual (defScope st) s.heap.objs.size f cdv)) → MB (ctOf P w K mg base N qual (defScope st) f cdv A outer s H E) (defBody st) m) :
    FnOk P w K mg base (L2N.CX P w) (k + 1) f fd ps (spF K mg pl (fsem n m)) := by
  subst hN hp
  obtain ⟨oc, od, kV, doc, pm, an, cdv, ct, osl, rfl, lk, hcd⟩ := F.ex
  refine fn_of lk hcd S (fun vs H Q E h => h.1) (fun A outer s H vs Q E hr h => ?_)
  obtain ⟨hl, ι, h, ds, R, r, p⟩ := h
  obtain ⟨t, pt, s1⟩ := hm cdv A outer s H E hr
  refine ⟨t, pt, ?_⟩
  have V : RV (ctOf P w K mg base N qual (defScope st) f cdv A outer s H E) ι h.length H (ds.map some ++ List.replicate (N.length - ds.length) none) (L2.start N vs) := ⟨start_re N.length r, trivial⟩
  refine s1.run _ h _ H ι _ R V ?_
  have q := PostF.gc R p
  cases hq : m (ds.map some ++ List.replicate (N.length - ds.length) none) h with
  | nx e h1 =>
    rw [hq] at q
    exact fun ι' H' σ' x R' V' => q ι' H' .non x R' (RD.non.mpr rfl)
  | rt d h1 => rw [hq] at q; exact q
  | exc c fs e h1 => rw [hq] at q; exact fun ι' H' σ' Cl dd x R' V' mc xd => q ι' H' Cl dd x R' mc xd
  | bk e h1 => rw [hq] at q; exact q.elim
  | ct e h1 => rw [hq] at q; exact q.elim
  | stuck => rw [hq] at q; exact q.elim

/-! ### calls of defs -/
/-- called with n arguments -/
def argn (n : Nat) (F : List D → AH → ER) : List D → AH → ER := fun ds h => if ds.length = n then F ds h else .stuck
section
variable {C : Ct} {k pl : Nat} {f : Addr} {fd : FuncData} {ps : List Str} {F : List D → AH → ER} {x : Str} {p pos : Pos} {e : Expr} {es : List Expr} {ml : LM}
theorem spF.of {ι : Nat → Addr} {h : AH} {H : Hp} {σ : List (Option V)} {ds : List D} {vs : List V} {Q : VK} (R : Rel C.X.K ι h H) (r : RDs C.X.K ι h.length H ds vs) (hl : vs.length = pl) (q : PostE C ι h.length H σ (F ds h) Q) : spF C.X.K C.X.mg pl F vs H Q (WE C.W σ) := by
  refine ⟨hl, ι, h, ds, R, r, ?_⟩
  cases hf : F ds h with
  | ok d h' => rw [hf] at q; exact q
  | exc c fs h' => rw [hf] at q; exact q
  | stuck => rw [hf] at q; exact q
theorem me_call (F0 : FnOk C.X.prog C.X.w C.X.K C.X.mg C.X.base (L2N.CX C.X.prog C.X.w) k f fd ps (spF C.X.K C.X.mg pl F)) (hr : Room k C.X.A) (hm : C.X.mg x = some (.ref f)) (hk : PySem.W.keepIn C.X.K (.ref f) = true) (hb : Binds C.X.K fd ps []) (tk : L2N.Takes C.X C.W)
    (ha : MA C (e :: es) ml) (hlen : (e :: es).length = pl := by rfl) (hg : Gl C.X x := by rfl) (hdb : (x == ("__debug__" : Str)) = false := by decide) (he : starEach (e :: es) C.X.env = (false, eval e C.X.env) :: starEach es C.X.env := by rfl) (hpl : (backTo pos (starEach es C.X.env)).any (·.1) = false := by rfl) :
    ME C (.Call (.Name x p) (e :: es) [] pos) (eCall (argn pl F) ml) := by
  obtain ⟨t, pa, s⟩ := ha
  refine ⟨_, pe_callSD F0 hr hg hm hk hb (dvs := []) .nil (fun σ => L2N.passAt tk σ) pa hdb he hpl, ⟨fun env h σ H ι Q R V q => ?_⟩⟩
  refine s.run env h σ H ι _ R V ?_
  unfold eCall at q
  cases hm : ml env h with
  | ok ds h1 =>
    rw [hm] at q
    refine fun ι' H' vs x R' r => ?_
    show spF C.X.K C.X.mg pl F (vs ++ []) H' Q (WE C.W σ)
    rw [List.append_nil]
    have q2 : PostE C ι h.length H σ (if ds.length = pl then F ds h1 else .stuck) Q := q
    by_cases hd : ds.length = pl
    · rw [if_pos hd] at q2
      exact spF.of R' r (by rw [← r.length]; exact hd) (PostE.shift q2 x)
    · rw [if_neg hd] at q2; exact q2.elim
  | exc c fs h1 => rw [hm] at q; exact q
  | stuck => rw [hm] at q; exact q
end
end Rf

set_option maxHeartbeats 1000000
namespace Rf
open PySem PySem.Spec PyProof.Rows L2

/-! ### values made -/
section
variable {C : Ct} {ι : Nat → Addr} {h : AH} {H : Hp} {σ : List (Option V)} {Q : VK} {ds : List D} {vs : List V} {d : D} {v : V}
theorem PostE.here (p : PostE C ι h.length H σ (.ok d h) Q) (R : Rel C.X.K ι h H) (r : RD C.X.K ι h.length H d v) : Q v H := p ι H v .refl R r
theorem PostE.tup (p : PostE C ι h.length H σ (.ok (.tup ds) h) Q) (R : Rel C.X.K ι h H) (r : RDs C.X.K ι h.length H ds vs) {a : Addr} (ha : H a = none) : Q (.ref a) (upd H a (.tup vs)) := by
  have x : Ext ι h.length H ι h.length (upd H a (.tup vs)) := Ext.tup ha
  exact p ι _ (.ref a) x (R.tup ha x) (RD.tup.mpr ⟨a, vs, rfl, upd_same, r.mono (x.grow R)⟩)
theorem PostE.lst (p : PostE C ι h.length H σ (.ok (.ref h.length) (h ++ [.lst ds])) Q) (R : Rel C.X.K ι h H) (r : RDs C.X.K ι h.length H ds vs) {a : Addr} (ha : H a = none) : Q (.ref a) (upd H a (.lst vs)) := by
  have el : (h ++ [AO.lst ds]).length = h.length + 1 := by simp
  have x : Ext ι h.length H (ιset ι h.length a) (h.length + 1) (upd H a (.lst vs)) := Ext.new ha
  refine p (ιset ι h.length a) _ (.ref a) (by rw [el]; exact x) (R.new ha fun x => ⟨vs, upd_same, r.mono (x.grow R)⟩) ?_
  rw [el]
  exact RD.ref.mpr ⟨Nat.lt_succ_self _, by rw [ιset_same]⟩
theorem RD.list {K : PySem.W.Frag} (R : Rel K ι h H) {i : Nat} (r : RD K ι h.length H (.ref i) v) (e : h[i]? = some (.lst ds)) : ∃ vs, v = .ref (ι i) ∧ H (ι i) = some (.lst vs) ∧ RDs K ι h.length H ds vs := by
  obtain ⟨_, e2⟩ := RD.ref.mp r
  obtain ⟨vs, e3, r3⟩ := R.ob i _ e
  exact ⟨vs, e2, e3, r3⟩
end
/-- what a value holds as a row that may be read -/
def seqOf (h : AH) : D → Option (List D)
  | .tup ds => some ds
  | .rol ds => some ds
  | .ref i => match h[i]? with
    | some (.lst ds) => some ds
    | _ => none
  | _ => none
/-- .. a list alone -/
def listOf (h : AH) : D → Option (List D)
  | .rol ds => some ds
  | .ref i => match h[i]? with
    | some (.lst ds) => some ds
    | _ => none
  | _ => none
section
variable {K : PySem.W.Frag} {ι : Nat → Addr} {h : AH} {H : Hp} {ds : List D} {d : D} {v : V}
theorem listOf_sq (R : Rel K ι h H) (r : RD K ι h.length H d v) (e : listOf h d = some ds) : ∃ a vs, v = .ref a ∧ SqL K H a vs ∧ RDs K ι h.length H ds vs := by
  cases d with
  | rol es =>
    cases e
    obtain ⟨a, vs, e, q, r⟩ := RD.rol.mp r
    exact ⟨a, vs, e, q.sq, r⟩
  | ref i =>
    simp only [listOf] at e
    cases he : h[i]? with
    | none => rw [he] at e; cases e
    | some o =>
      rw [he] at e
      cases o with
      | lst es =>
        cases e
        obtain ⟨vs, e1, e2, r2⟩ := r.list R he
        exact ⟨_, vs, e1, SqL.of e2, r2⟩
      | _ => cases e
  | _ => cases e
theorem seqOf_sq (R : Rel K ι h H) (r : RD K ι h.length H d v) (e : seqOf h d = some ds) : ∃ a vs, v = .ref a ∧ (SqL K H a vs ∨ SqT K H a vs) ∧ RDs K ι h.length H ds vs := by
  cases d with
  | tup es =>
    cases e
    obtain ⟨a, vs, e, q, r⟩ := RD.tup.mp r
    exact ⟨a, vs, e, .inr q, r⟩
  | rol es =>
    cases e
    obtain ⟨a, vs, e, q, r⟩ := RD.rol.mp r
    exact ⟨a, vs, e, .inl q.sq, r⟩
  | ref i =>
    have e' : listOf h (.ref i) = some ds := e
    obtain ⟨a, vs, e1, q, r⟩ := listOf_sq R r e'
    exact ⟨a, vs, e1, .inl q, r⟩
  | _ => cases e
theorem RDs.ints : ∀ {ns : List Int} {vs : List V} {n : Nat}, RDs K ι n H (ns.map D.int) vs → vs = ns.map V.int
  | [], vs, n, r => RDs.nil.mp r
  | k :: ns, vs, n, r => by
    obtain ⟨v, r', rfl, h1, h2⟩ := RDs.cons.mp r
    rw [RD.int.mp h1, RDs.ints h2]; rfl
theorem RDs.of_ints : ∀ {ns : List Int} {n : Nat}, RDs K ι n H (ns.map D.int) (ns.map V.int)
  | [], n => RDs.nil'
  | k :: ns, n => RDs.cons' (RD.int.mpr rfl) RDs.of_ints
theorem RDs.bls : ∀ {ns : List Bool} {vs : List V} {n : Nat}, RDs K ι n H (ns.map D.bl) vs → vs = ns.map V.bl
  | [], vs, n, r => RDs.nil.mp r
  | k :: ns, vs, n, r => by
    obtain ⟨v, r', rfl, h1, h2⟩ := RDs.cons.mp r
    rw [RD.bl.mp h1, RDs.bls h2]; rfl
theorem RDs.strs : ∀ {ns : List Str} {vs : List V} {n : Nat}, RDs K ι n H (ns.map D.str) vs → vs = ns.map V.str
  | [], vs, n, r => RDs.nil.mp r
  | k :: ns, vs, n, r => by
    obtain ⟨v, r', rfl, h1, h2⟩ := RDs.cons.mp r
    rw [RD.str.mp h1, RDs.strs h2]; rfl
theorem RDs.of_strs : ∀ {ns : List Str} {n : Nat}, RDs K ι n H (ns.map D.str) (ns.map V.str)
  | [], n => RDs.nil'
  | k :: ns, n => RDs.cons' (RD.str.mpr rfl) RDs.of_strs
theorem RDs.atI {n : Nat} {vs : List V} (r : RDs K ι n H ds vs) {i : Int} {d : D} (e : L2.atI ds i = some d) : ∃ v, L2.atI vs i = some v ∧ RD K ι n H d v := by
  unfold L2.atI at e ⊢
  rw [← r.length]
  cases q : L2.ixN ds.length i with
  | none => rw [q] at e; cases e
  | some j =>
    rw [q] at e
    exact r.get e
theorem RDs.cut_ {n : Nat} {vs : List V} (r : RDs K ι n H ds vs) (lo hi : Option Int) : RDs K ι n H ((ds.drop (HT.sIx ds.length 0 lo)).take (HT.sIx ds.length ds.length hi - HT.sIx ds.length 0 lo)) (cutV vs lo hi) := by
  unfold cutV
  rw [← r.length]
  exact (r.drop _).take _
end
/-- the ints of a row -/
def intsOf : List D → Option (List Int)
  | [] => some []
  | .int i :: r => (intsOf r).map (i :: ·)
  | _ => none
theorem intsOf_eq : ∀ {ds : List D} {ns : List Int}, intsOf ds = some ns → ds = ns.map D.int
  | [], ns, e => by cases e; rfl
  | .int i :: r, ns, e => by
    unfold intsOf at e
    cases q : intsOf r with
    | none => rw [q] at e; cases e
    | some ms =>
      rw [q] at e
      cases e
      rw [intsOf_eq q]; rfl
  | .non :: _, _, e => by cases e
  | .bl _ :: _, _, e => by cases e
  | .str _ :: _, _, e => by cases e
  | .ty _ :: _, _, e => by cases e
  | .tup _ :: _, _, e => by cases e
  | .rol _ :: _, _, e => by cases e
  | .kt _ :: _, _, e => by cases e
  | .ref _ :: _, _, e => by cases e
@[simp] theorem intsOf_map : ∀ ns : List Int, intsOf (ns.map D.int) = some ns
  | [] => rfl
  | k :: ns => by
    show (intsOf (ns.map D.int)).map (k :: ·) = _
    rw [intsOf_map ns]; rfl
def blsOf : List D → Option (List Bool)
  | [] => some []
  | .bl i :: r => (blsOf r).map (i :: ·)
  | _ => none
theorem blsOf_eq : ∀ {ds : List D} {ns : List Bool}, blsOf ds = some ns → ds = ns.map D.bl
  | [], ns, e => by cases e; rfl
  | .bl i :: r, ns, e => by
    unfold blsOf at e
    cases q : blsOf r with
    | none => rw [q] at e; cases e
    | some ms =>
      rw [q] at e
      cases e
      rw [blsOf_eq q]; rfl
  | .non :: _, _, e => by cases e
  | .int _ :: _, _, e => by cases e
  | .str _ :: _, _, e => by cases e
  | .ty _ :: _, _, e => by cases e
  | .tup _ :: _, _, e => by cases e
  | .rol _ :: _, _, e => by cases e
  | .kt _ :: _, _, e => by cases e
  | .ref _ :: _, _, e => by cases e
@[simp] theorem blsOf_map : ∀ ns : List Bool, blsOf (ns.map D.bl) = some ns
  | [] => rfl
  | k :: ns => by
    show (blsOf (ns.map D.bl)).map (k :: ·) = _
    rw [blsOf_map ns]; rfl
def strsOf : List D → Option (List Str)
  | [] => some []
  | .str i :: r => (strsOf r).map (i :: ·)
  | _ => none
theorem strsOf_eq : ∀ {ds : List D} {ns : List Str}, strsOf ds = some ns → ds = ns.map D.str
  | [], ns, e => by cases e; rfl
  | .str i :: r, ns, e => by
    unfold strsOf at e
    cases q : strsOf r with
    | none => rw [q] at e; cases e
    | some ms =>
      rw [q] at e
      cases e
      rw [strsOf_eq q]; rfl
  | .non :: _, _, e => by cases e
  | .int _ :: _, _, e => by cases e
  | .bl _ :: _, _, e => by cases e
  | .ty _ :: _, _, e => by cases e
  | .tup _ :: _, _, e => by cases e
  | .rol _ :: _, _, e => by cases e
  | .kt _ :: _, _, e => by cases e
  | .ref _ :: _, _, e => by cases e
@[simp] theorem strsOf_map : ∀ ns : List Str, strsOf (ns.map D.str) = some ns
  | [] => rfl
  | k :: ns => by
    show (strsOf (ns.map D.str)).map (k :: ·) = _
    rw [strsOf_map ns]; rfl

/-! ### + - * // % ** -/
def RepOk (n : Nat) (k : Int) : Prop := -(2 ^ 63) ≤ k ∧ k < 2 ^ 63 ∧ n * k.toNat ≤ sizeLine
noncomputable instance {n : Nat} {k : Int} : Decidable (RepOk n k) := Classical.propDecidable _
def DivOk (j : Int) : Prop := 0 < j ∧ j.natAbs.log2 < 9000
noncomputable instance {j : Int} : Decidable (DivOk j) := Classical.propDecidable _
def PowOk (i j : Int) : Prop := 0 ≤ j ∧ j ≤ 1000000 ∧ i.natAbs < 2 ^ 64
noncomputable instance {i j : Int} : Decidable (PowOk i j) := Classical.propDecidable _
noncomputable def oAdd (a b : D) (h : AH) : ER := match a, b with
  | .int i, .int j => .ok (.int (i + j)) h
  | .str x, .str y => if Fits (x.length + y.length) then .ok (.str (x ++ y)) h else .stuck
  | .tup xs, .tup ys => if Fits (xs.length + ys.length) then .ok (.tup (xs ++ ys)) h else .stuck
  | .ref i, .ref j => (match h[i]?, h[j]? with
    | some (.lst xs), some (.lst ys) => if Fits (xs.length + ys.length) then .ok (.ref h.length) (h ++ [.lst (xs ++ ys)]) else .stuck
    | _, _ => .stuck)
  | _, _ => .stuck
def oSub (a b : D) (h : AH) : ER := match a, b with
  | .int i, .int j => .ok (.int (i - j)) h
  | _, _ => .stuck
noncomputable instance {i j : Int} : Decidable (CMulX i j) := Classical.propDecidable _
noncomputable def oMul (a b : D) (h : AH) : ER := match a, b with
  | .int i, .int j => if CMulX i j then .ok (.int (i * j)) h else .stuck
  | .ref i, .int k => (match h[i]? with
    | some (.lst xs) => if RepOk xs.length k then .ok (.ref h.length) (h ++ [.lst (List.replicate k.toNat xs).flatten]) else .stuck
    | _ => .stuck)
  | _, _ => .stuck
noncomputable def oDiv (a b : D) (h : AH) : ER := match a, b with
  | .int i, .int j => if DivOk j then .ok (.int (i / j)) h else .stuck
  | _, _ => .stuck
def oMod (a b : D) (h : AH) : ER := match a, b with
  | .int i, .int j => if 0 < j then .ok (.int (i % j)) h else .stuck
  | _, _ => .stuck
noncomputable def oPow (a b : D) (h : AH) : ER := match a, b with
  | .int i, .int j => if PowOk i j then .ok (.int (i ^ j.toNat)) h else .stuck
  | _, _ => .stuck
def oNeg (a : D) (h : AH) : ER := match a with
  | .int i => .ok (.int (-i)) h
  | _ => .stuck
section
variable {C : Ct}
abbrev rAddAll (X : Cx) : R2 := fun x y H Q => (rI0 fun i j => V.int (i + j)) x y H Q ∨ (fun (x y : V) (H : Hp) (Q : VK) => ∃ i j, x = .str i ∧ y = .str j ∧ i.length + j.length ≤ sizeLine ∧ Q (.str (i ++ j)) H) x y H Q ∨ rCatA X.K x y H Q ∨ rCat x y H Q
theorem op_addAll {X : Cx} : OpR X (binaryOp .Add) (rAddAll X) := op_add.or (op_add_str.or (op_catA.or op_cat))
theorem os_add : OpS C (rAddAll C.X) oAdd := by
  intro ι h H σ x y d1 d2 Q R r1 r2 p
  unfold oAdd at p
  split at p
  · rename_i i j
    exact .inl ⟨i, j, RD.int.mp r1, RD.int.mp r2, p.here R (RD.int.mpr rfl)⟩
  · rename_i i j
    split at p
    · rename_i hl
      exact .inr (.inl ⟨i, j, RD.str.mp r1, RD.str.mp r2, hl, p.here R (RD.str.mpr rfl)⟩)
    · exact p.elim
  · rename_i xs ys
    split at p
    · rename_i hl
      change _ ≤ sizeLine at hl
      obtain ⟨a, us, rfl, s1, q1⟩ := RD.tup.mp r1
      obtain ⟨b, ws, rfl, s2, q2⟩ := RD.tup.mp r2
      have l1 := q1.length
      have l2 := q2.length
      refine .inr (.inr (.inl ⟨a, b, us, ws, rfl, rfl, s1, s2, by omega, fun e => ?_, fun _ e => ?_, fun _ _ a' ha => p.tup R (q1.append q2) ha⟩))
      · have e1 : xs = [] := List.eq_nil_of_length_eq_zero (by rw [l1, e]; rfl)
        subst e1
        exact p.here R r2
      · have e1 : ys = [] := List.eq_nil_of_length_eq_zero (by rw [l2, e]; rfl)
        subst e1
        rw [List.append_nil] at p
        exact p.here R r1
    · exact p.elim
  · rename_i i j
    split at p
    · rename_i xs ys e1 e2
      split at p
      · rename_i hl
        change _ ≤ sizeLine at hl
        obtain ⟨us, rfl, h1, q1⟩ := r1.list R e1
        obtain ⟨ws, rfl, h2, q2⟩ := r2.list R e2
        have l1 := q1.length
        have l2 := q2.length
        exact .inr (.inr (.inr ⟨_, _, us, ws, rfl, rfl, h1, h2, by omega, fun a ha => p.lst R (q1.append q2) ha⟩))
      · exact p.elim
    · exact p.elim
  · exact p.elim
theorem os_sub : OpS C (rI0 fun i j => .int (i - j)) oSub := by
  intro ι h H σ x y d1 d2 Q R r1 r2 p
  unfold oSub at p
  split at p
  · rename_i i j
    exact ⟨i, j, RD.int.mp r1, RD.int.mp r2, p.here R (RD.int.mpr rfl)⟩
  · exact p.elim
abbrev rMulAll : R2 := fun x y H Q => (rI CMulX fun i j => V.int (i * j)) x y H Q ∨ rRep x y H Q
theorem op_mulAll {X : Cx} : OpR X (binaryOp .Mult) rMulAll := op_mulX.or op_rep
theorem os_mul : OpS C rMulAll oMul := by
  intro ι h H σ x y d1 d2 Q R r1 r2 p
  unfold oMul at p
  split at p
  · rename_i i j
    split at p
    · rename_i hc
      exact .inl ⟨i, j, RD.int.mp r1, RD.int.mp r2, hc, p.here R (RD.int.mpr rfl)⟩
    · exact p.elim
  · rename_i i k
    split at p
    · rename_i xs e1
      split at p
      · rename_i hl
        obtain ⟨us, rfl, h1, q1⟩ := r1.list R e1
        have l1 := q1.length
        exact .inr ⟨_, k, us, rfl, RD.int.mp r2, h1, hl.1, hl.2.1, by rw [← l1]; exact hl.2.2, fun a ha => p.lst R (q1.rep _) ha⟩
      · exact p.elim
    · exact p.elim
  · exact p.elim
theorem os_div : OpS C (rI CDivW fun i j => .int (i / j)) oDiv := by
  intro ι h H σ x y d1 d2 Q R r1 r2 p
  unfold oDiv at p
  split at p
  · rename_i i j
    split at p
    · rename_i hc
      exact ⟨i, j, RD.int.mp r1, RD.int.mp r2, hc, p.here R (RD.int.mpr rfl)⟩
    · exact p.elim
  · exact p.elim
theorem os_mod : OpS C (rI (fun _ j => 0 < j) fun i j => .int (i % j)) oMod := by
  intro ι h H σ x y d1 d2 Q R r1 r2 p
  unfold oMod at p
  split at p
  · rename_i i j
    split at p
    · rename_i hc
      exact ⟨i, j, RD.int.mp r1, RD.int.mp r2, hc, p.here R (RD.int.mpr rfl)⟩
    · exact p.elim
  · exact p.elim
theorem os_pow : OpS C (rI CPow fun i j => .int (i ^ j.toNat)) oPow := by
  intro ι h H σ x y d1 d2 Q R r1 r2 p
  unfold oPow at p
  split at p
  · rename_i i j
    split at p
    · rename_i hc
      exact ⟨i, j, RD.int.mp r1, RD.int.mp r2, hc, p.here R (RD.int.mpr rfl)⟩
    · exact p.elim
  · exact p.elim
theorem us_neg : UnS C (rU fun i => .int (-i)) oNeg := by
  intro ι h H σ x d Q R r p
  unfold oNeg at p
  split at p
  · rename_i i
    exact ⟨i, RD.int.mp r, p.here R (RD.int.mpr rfl)⟩
  · exact p.elim

/-! ### truth -/
noncomputable def oTruth (d : D) (h : AH) : ER := match d with
  | .non => .ok (.bl false) h
  | .bl b => .ok (.bl b) h
  | .int i => .ok (.bl (i != 0)) h
  | .str x => if Fits (x.length) then .ok (.bl ((x.length : Int) != 0)) h else .stuck
  | .tup ds => .ok (.bl (!ds.isEmpty)) h
  | .rol ds => .ok (.bl (!ds.isEmpty)) h
  | .ref i => (match h[i]? with
    | some (.lst ds) => .ok (.bl (!ds.isEmpty)) h
    | some (.dK kvs) => .ok (.bl (!kvs.isEmpty)) h
    | _ => .stuck)
  | _ => .stuck
theorem isEmpty_len {α β : Type} {xs : List α} {ys : List β} (e : xs.length = ys.length) : xs.isEmpty = ys.isEmpty := by
  cases xs <;> cases ys <;> first | rfl | (simp at e)
theorem ts_truth : TruS C oTruth := by
  intro ι h H σ x d Q R r p
  have fin : ∀ {b : Bool}, PostT C ι h.length H σ (.ok (.bl b) h) Q → Q b H := fun {b} p => by
    obtain ⟨b', e, q⟩ := p
    cases e
    exact q ι H .refl R
  unfold oTruth at p
  split at p
  · exact ⟨_, by rw [RD.non.mp r]; exact rfl, fin p⟩
  · exact ⟨_, by rw [RD.bl.mp r]; exact rfl, fin p⟩
  · exact ⟨_, by rw [RD.int.mp r]; exact rfl, fin p⟩
  · split at p
    · rename_i hl
      exact ⟨_, by rw [RD.str.mp r]; exact ⟨hl, rfl⟩, fin p⟩
    · exact p.elim
  · obtain ⟨a, vs, rfl, q, rr⟩ := RD.tup.mp r
    exact ⟨_, .inr (.inl ⟨vs, q, by rw [isEmpty_len rr.length]⟩), fin p⟩
  · obtain ⟨a, vs, rfl, q, rr⟩ := RD.rol.mp r
    exact ⟨_, .inl ⟨vs, q.sq, by rw [isEmpty_len rr.length]⟩, fin p⟩
  · rename_i i
    split at p
    · rename_i ds e
      obtain ⟨vs, rfl, e1, rr⟩ := r.list R e
      exact ⟨_, .inl ⟨vs, SqL.of e1, by rw [isEmpty_len rr.length]⟩, fin p⟩
    · rename_i kvs e
      obtain ⟨_, rfl⟩ := RD.ref.mp r
      obtain ⟨ws, e1, k, rr⟩ := R.ob i _ e
      have : kvs.length = ws.length := by simpa using congrArg List.length k
      exact ⟨_, .inr (.inr ⟨ws, e1, by rw [isEmpty_len this]⟩), fin p⟩
    · exact p.elim
  · exact p.elim
end

/-! ### == -/
/-- data as the library's data, lists within looked up -/
def D.toP (h : AH) : Nat → D → Option PyData
  | _, .non => some .none
  | _, .bl b => some (.bool b)
  | _, .int i => some (.int i)
  | _, .str x => if PyData.strOk x then some (.str x) else none
  | k + 1, .tup ds => (ds.mapM (D.toP h k)).map .tuple
  | k + 1, .rol ds => (ds.mapM (D.toP h k)).map .list
  | k + 1, .kt ds => (ds.mapM (D.toP h k)).map .tuple
  | k + 1, .ref i => (match h[i]? with
    | some (.lst ds) => (ds.mapM (D.toP h k)).map .list
    | _ => none)
  | _, _ => none
theorem mapM_cons {α β : Type} {f : α → Option β} {a : α} {l : List α} {r : List β} (e : (a :: l).mapM f = some r) : ∃ b r', f a = some b ∧ l.mapM f = some r' ∧ r = b :: r' := by
  rw [List.mapM_cons] at e
  cases h1 : f a with
  | none => rw [h1] at e; cases e
  | some b =>
    rw [h1] at e
    cases h2 : l.mapM f with
    | none => rw [h2] at e; cases e
    | some r' => rw [h2] at e; cases e; exact ⟨b, r', rfl, rfl, rfl⟩
section
variable {K : PySem.W.Frag} {ι : Nat → Addr} {h : AH} {H : Hp}
theorem toP_dp (R : Rel K ι h H) : ∀ (k : Nat) (d : D) (v : V) (p : PyData), RD K ι h.length H d v → d.toP h k = some p → Dp K H v p ∧ p.canLay0 = true ∧ p.depth ≤ k := by
  have many : ∀ (k : Nat), (∀ (d : D) (v : V) (p : PyData), RD K ι h.length H d v → d.toP h k = some p → Dp K H v p ∧ p.canLay0 = true ∧ p.depth ≤ k) →
      ∀ (ds : List D) (vs : List V) (ps : List PyData), RDs K ι h.length H ds vs → ds.mapM (D.toP h k) = some ps → DpAll K H vs ps ∧ PyData.canLayAll0 ps = true ∧ PyData.depthAll ps ≤ k := by
    intro k ih ds
    induction ds with
    | nil =>
      intro vs ps r e
      rw [RDs.nil.mp r]
      rw [List.mapM_nil] at e
      cases e
      exact ⟨.nil, by simp [PyData.canLayAll0], by simp [PyData.depthAll]⟩
    | cons d ds ihd =>
      intro vs ps r e
      obtain ⟨v, r', rfl, h1, h2⟩ := RDs.cons.mp r
      obtain ⟨p, ps', e1, e2, rfl⟩ := mapM_cons e
      obtain ⟨a1, a2, a3⟩ := ih d v p h1 e1
      obtain ⟨b1, b2, b3⟩ := ihd r' ps' h2 e2
      exact ⟨.cons a1 b1, by simp [PyData.canLayAll0, a2, b2], by simp only [PyData.depthAll]; omega⟩
  intro k
  induction k with
  | zero =>
    intro d v p r e
    cases d with
    | non => cases e; rw [RD.non.mp r]; exact ⟨.non, by simp [PyData.canLay0], by simp [PyData.depth]⟩
    | bl b => cases e; rw [RD.bl.mp r]; exact ⟨.bl b, by simp [PyData.canLay0], by simp [PyData.depth]⟩
    | int b => cases e; rw [RD.int.mp r]; exact ⟨.int b, by simp [PyData.canLay0], by simp [PyData.depth]⟩
    | str b =>
      unfold D.toP at e
      split at e
      · rename_i ok
        cases e; rw [RD.str.mp r]; exact ⟨.str b, by simp [PyData.canLay0, ok], by simp [PyData.depth]⟩
      · cases e
    | _ => cases e
  | succ k ih =>
    intro d v p r e
    cases d with
    | non => cases e; rw [RD.non.mp r]; exact ⟨.non, by simp [PyData.canLay0], by simp [PyData.depth]⟩
    | bl b => cases e; rw [RD.bl.mp r]; exact ⟨.bl b, by simp [PyData.canLay0], by simp [PyData.depth]⟩
    | int b => cases e; rw [RD.int.mp r]; exact ⟨.int b, by simp [PyData.canLay0], by simp [PyData.depth]⟩
    | str b =>
      unfold D.toP at e
      split at e
      · rename_i ok
        cases e; rw [RD.str.mp r]; exact ⟨.str b, by simp [PyData.canLay0, ok], by simp [PyData.depth]⟩
      · cases e
    | ty n => cases e
    | tup ds =>
      unfold D.toP at e
      cases q : ds.mapM (D.toP h k) with
      | none => rw [q] at e; cases e
      | some ps =>
        rw [q] at e
        cases e
        obtain ⟨a, vs, rfl, s, rr⟩ := RD.tup.mp r
        obtain ⟨b1, b2, b3⟩ := many k ih ds vs ps rr q
        exact ⟨.tup s b1, by simpa [PyData.canLay0] using b2, by simp only [PyData.depth]; omega⟩
    | rol ds =>
      unfold D.toP at e
      cases q : ds.mapM (D.toP h k) with
      | none => rw [q] at e; cases e
      | some ps =>
        rw [q] at e
        cases e
        obtain ⟨a, vs, rfl, s, rr⟩ := RD.rol.mp r
        obtain ⟨b1, b2, b3⟩ := many k ih ds vs ps rr q
        exact ⟨.lst s.sq b1, by simpa [PyData.canLay0] using b2, by simp only [PyData.depth]; omega⟩
    | kt ds =>
      unfold D.toP at e
      cases q : ds.mapM (D.toP h k) with
      | none => rw [q] at e; cases e
      | some ps =>
        rw [q] at e
        cases e
        obtain ⟨a, vs, rfl, s, rr⟩ := RD.kt.mp r
        obtain ⟨b1, b2, b3⟩ := many k ih ds vs ps rr q
        exact ⟨.tup s.sq b1, by simpa [PyData.canLay0] using b2, by simp only [PyData.depth]; omega⟩
    | ref i =>
      unfold D.toP at e
      cases qi : h[i]? with
      | none => rw [qi] at e; cases e
      | some o =>
        rw [qi] at e
        cases o with
        | lst ds =>
          dsimp only at e
          cases q : ds.mapM (D.toP h k) with
          | none => rw [q] at e; cases e
          | some ps =>
            rw [q] at e
            cases e
            obtain ⟨vs, rfl, s, rr⟩ := r.list R qi
            obtain ⟨b1, b2, b3⟩ := many k ih ds vs ps rr q
            exact ⟨.lst (SqL.of s) b1, by simpa [PyData.canLay0] using b2, by simp only [PyData.depth]; omega⟩
        | _ => cases e
theorem toP_shaped {p : PyData} (h1 : p.canLay0 = true) (h2 : p.depth ≤ 20) : SeqAt.shaped p = true := by
  unfold SeqAt.shaped
  rw [h1, decide_eq_true (by omega : p.depth ≤ 64)]; rfl
end
def oEq (a b : D) (h : AH) : ER := match a.toP h 20, b.toP h 20 with
  | some p, some q => .ok (.bl (PyData.eqv p q)) h
  | _, _ => .stuck
def oNe (a b : D) (h : AH) : ER := match a.toP h 20, b.toP h 20 with
  | some p, some q => .ok (.bl (!PyData.eqv p q)) h
  | _, _ => .stuck
section
variable {C : Ct}
theorem os_eq : OpS C (rEqD C.X.K) oEq := by
  intro ι h H σ x y d1 d2 Q R r1 r2 p
  unfold oEq at p
  split at p
  · rename_i a b e1 e2
    obtain ⟨a1, a2, a3⟩ := toP_dp R _ _ _ _ r1 e1
    obtain ⟨b1, b2, b3⟩ := toP_dp R _ _ _ _ r2 e2
    exact ⟨a, b, a1, b1, toP_shaped a2 a3, toP_shaped b2 b3, p.here R (RD.bl.mpr rfl)⟩
  · exact p.elim
theorem os_ne : OpS C (rNeD C.X.K) oNe := by
  intro ι h H σ x y d1 d2 Q R r1 r2 p
  unfold oNe at p
  split at p
  · rename_i a b e1 e2
    obtain ⟨a1, a2, a3⟩ := toP_dp R _ _ _ _ r1 e1
    obtain ⟨b1, b2, b3⟩ := toP_dp R _ _ _ _ r2 e2
    exact ⟨a, b, a1, b1, toP_shaped a2 a3, toP_shaped b2 b3, p.here R (RD.bl.mpr rfl)⟩
  · exact p.elim
/-- x in l -/
def oIn (a b : D) (h : AH) : ER := match a.toP h 20, listOf h b, b.toP h 20 with
  | some p, some _, some (.list qs) => .ok (.bl (qs.any fun z => PyData.eqv z p)) h
  | _, _, _ => .stuck
def oNotIn (a b : D) (h : AH) : ER := match a.toP h 20, listOf h b, b.toP h 20 with
  | some p, some _, some (.list qs) => .ok (.bl (!qs.any fun z => PyData.eqv z p)) h
  | _, _, _ => .stuck
theorem os_in : OpS C (rInD C.X.K) oIn := by
  intro ι h H σ x y d1 d2 Q R r1 r2 p
  unfold oIn at p
  split at p
  · rename_i a l b e1 e3 e2
    obtain ⟨a1, a2, a3⟩ := toP_dp R _ _ _ _ r1 e1
    obtain ⟨b1, b2, b3⟩ := toP_dp R _ _ _ _ r2 e2
    exact ⟨a, b, a1, b1, toP_shaped a2 a3, toP_shaped b2 b3, p.here R (RD.bl.mpr rfl)⟩
  · exact p.elim
theorem os_notIn : OpS C (rNotInD C.X.K) oNotIn := by
  intro ι h H σ x y d1 d2 Q R r1 r2 p
  unfold oNotIn at p
  split at p
  · rename_i a l b e1 e3 e2
    obtain ⟨a1, a2, a3⟩ := toP_dp R _ _ _ _ r1 e1
    obtain ⟨b1, b2, b3⟩ := toP_dp R _ _ _ _ r2 e2
    exact ⟨a, b, a1, b1, toP_shaped a2 a3, toP_shaped b2 b3, p.here R (RD.bl.mpr rfl)⟩
  · exact p.elim

/-! ### < <= > >=, is None -/
def oLt (a b : D) (h : AH) : ER := match a, b with
  | .int i, .int j => .ok (.bl (decide (i < j))) h
  | .str x, .str y => .ok (.bl (decide (x.cps.toList < y.cps.toList))) h
  | .tup xs, .tup ys => (match intsOf xs, intsOf ys with
    | some ns, some ms => .ok (.bl (HT.lexLt ns ms)) h
    | _, _ => .stuck)
  | _, _ => .stuck
def oLe (a b : D) (h : AH) : ER := match a, b with
  | .int i, .int j => .ok (.bl (decide (i ≤ j))) h
  | .str x, .str y => .ok (.bl (!decide (y.cps.toList < x.cps.toList))) h
  | _, _ => .stuck
def oGt (a b : D) (h : AH) : ER := match a, b with
  | .int i, .int j => .ok (.bl (decide (j < i))) h
  | _, _ => .stuck
def oGe (a b : D) (h : AH) : ER := match a, b with
  | .int i, .int j => .ok (.bl (decide (j ≤ i))) h
  | _, _ => .stuck
abbrev rLtAll (X : Cx) : R2 := fun x y H Q => (rI0 fun i j => V.bl (decide (i < j))) x y H Q ∨ (fun (x y : V) (H : Hp) (Q : VK) => ∃ i j, x = .str i ∧ y = .str j ∧ Q (.bl (decide (i.cps.toList < j.cps.toList))) H) x y H Q ∨ rLtT X.K x y H Q
theorem op_ltAll {X : Cx} (hu : X.A.units < cLine) : OpR X (compareOp .Lt) (rLtAll X) := op_lt.or (op_lt_str.or (op_ltT hu))
theorem os_lt : OpS C (rLtAll C.X) oLt := by
  intro ι h H σ x y d1 d2 Q R r1 r2 p
  unfold oLt at p
  split at p
  · rename_i i j
    exact .inl ⟨i, j, RD.int.mp r1, RD.int.mp r2, p.here R (RD.bl.mpr rfl)⟩
  · rename_i i j
    exact .inr (.inl ⟨i, j, RD.str.mp r1, RD.str.mp r2, p.here R (RD.bl.mpr rfl)⟩)
  · rename_i xs ys
    split at p
    · rename_i ns ms e1 e2
      obtain ⟨a, us, rfl, s1, q1⟩ := RD.tup.mp r1
      obtain ⟨b, ws, rfl, s2, q2⟩ := RD.tup.mp r2
      rw [intsOf_eq e1] at q1
      rw [intsOf_eq e2] at q2
      rw [q1.ints] at s1
      rw [q2.ints] at s2
      exact .inr (.inr ⟨a, b, ns, ms, rfl, rfl, s1, s2, p.here R (RD.bl.mpr rfl)⟩)
    · exact p.elim
  · exact p.elim
abbrev rLeAll : R2 := fun x y H Q => (rI0 fun i j => V.bl (decide (i ≤ j))) x y H Q ∨ (fun (x y : V) (H : Hp) (Q : VK) => ∃ i j, x = .str i ∧ y = .str j ∧ Q (.bl (!decide (j.cps.toList < i.cps.toList))) H) x y H Q
theorem op_leAll {X : Cx} : OpR X (compareOp .LtE) rLeAll := op_le.or op_le_str
theorem os_le : OpS C rLeAll oLe := by
  intro ι h H σ x y d1 d2 Q R r1 r2 p
  unfold oLe at p
  split at p
  · rename_i i j
    exact .inl ⟨i, j, RD.int.mp r1, RD.int.mp r2, p.here R (RD.bl.mpr rfl)⟩
  · rename_i i j
    exact .inr ⟨i, j, RD.str.mp r1, RD.str.mp r2, p.here R (RD.bl.mpr rfl)⟩
  · exact p.elim
theorem os_gt : OpS C (rI0 fun i j => .bl (decide (j < i))) oGt := by
  intro ι h H σ x y d1 d2 Q R r1 r2 p
  unfold oGt at p
  split at p
  · rename_i i j
    exact ⟨i, j, RD.int.mp r1, RD.int.mp r2, p.here R (RD.bl.mpr rfl)⟩
  · exact p.elim
theorem os_ge : OpS C (rI0 fun i j => .bl (decide (j ≤ i))) oGe := by
  intro ι h H σ x y d1 d2 Q R r1 r2 p
  unfold oGe at p
  split at p
  · rename_i i j
    exact ⟨i, j, RD.int.mp r1, RD.int.mp r2, p.here R (RD.bl.mpr rfl)⟩
  · exact p.elim
def D.isNon : D → Bool
  | .non => true
  | _ => false
theorem RD.isNon {K : PySem.W.Frag} {ι : Nat → Addr} {n : Nat} {H : Hp} {d : D} {v : V} (r : RD K ι n H d v) : decide (v = .non) = d.isNon := by
  cases d with
  | non => rw [RD.non.mp r]; rfl
  | bl b => rw [RD.bl.mp r]; rfl
  | int b => rw [RD.int.mp r]; rfl
  | str b => rw [RD.str.mp r]; rfl
  | ty b => rw [RD.ty.mp r]; rfl
  | tup b => obtain ⟨a, vs, rfl, _⟩ := RD.tup.mp r; rfl
  | rol b => obtain ⟨a, vs, rfl, _⟩ := RD.rol.mp r; rfl
  | kt b => obtain ⟨a, vs, rfl, _⟩ := RD.kt.mp r; rfl
  | ref b => obtain ⟨_, rfl⟩ := RD.ref.mp r; rfl
def oIs (a b : D) (h : AH) : ER := match b with
  | .non => .ok (.bl a.isNon) h
  | _ => .stuck
def oIsNot (a b : D) (h : AH) : ER := match b with
  | .non => .ok (.bl (!a.isNon)) h
  | _ => .stuck
theorem os_is : OpS C (fun x y H Q => y = .non ∧ Q (.bl (decide (x = .non))) H) oIs := by
  intro ι h H σ x y d1 d2 Q R r1 r2 p
  unfold oIs at p
  split at p
  · exact ⟨RD.non.mp r2, p.here R (RD.bl.mpr (by rw [r1.isNon]))⟩
  · exact p.elim
theorem os_isNot : OpS C (fun x y H Q => y = .non ∧ Q (.bl (!decide (x = .non))) H) oIsNot := by
  intro ι h H σ x y d1 d2 Q R r1 r2 p
  unfold oIsNot at p
  split at p
  · exact ⟨RD.non.mp r2, p.here R (RD.bl.mpr (by rw [r1.isNon]))⟩
  · exact p.elim

/-! ### items, slices -/
noncomputable def oIx (a b : D) (h : AH) : ER := match b with
  | .int i => (match a with
    | .str z => if Fits (z.length) then (match L2.atI z.cps.toList i with
      | some c => .ok (.str ⟨#[c]⟩) h
      | none => .stuck) else .stuck
    | a => (match seqOf h a with
      | some ds => (match L2.atI ds i with
        | some d => .ok d h
        | none => .stuck)
      | none => .stuck))
  | _ => .stuck
theorem os_ix : OpS C (rIx C.X.K) oIx := by
  intro ι h H σ x y d1 d2 Q R r1 r2 p
  unfold oIx at p
  split at p
  · rename_i i
    cases RD.int.mp r2
    split at p
    · rename_i z
      cases RD.str.mp r1
      split at p
      · rename_i hl
        split at p
        · rename_i c e
          exact .inr (.inr ⟨z, i, c, rfl, rfl, hl, e, p.here R (RD.str.mpr rfl)⟩)
        · exact p.elim
      · exact p.elim
    · split at p
      · rename_i ds e
        split at p
        · rename_i d e2
          obtain ⟨a, vs, rfl, s, rr⟩ := seqOf_sq R r1 e
          obtain ⟨v, e3, r3⟩ := rr.atI e2
          have q := p.here R r3
          rcases s with s | s
          · exact .inl ⟨a, vs, i, v, rfl, rfl, s, e3, q⟩
          · exact .inr (.inl ⟨a, vs, i, v, rfl, rfl, s, e3, q⟩)
        · exact p.elim
      · exact p.elim
  · exact p.elim
theorem me_ix {a b : Expr} {ma mb : EM} {pos : Pos} {r : R2} {g : D → D → AH → ER} (hr : IxR C.X r) (hs : OpS C r g) (ha : ME C a ma) (hb : ME C b mb) (hp : PlainIx b := by exact fun _ _ => rfl) : ME C (.Subscript a b pos) (eOp g ma mb) := by
  obtain ⟨ta, pa, sa⟩ := ha
  obtain ⟨tb, pb, sb⟩ := hb
  exact ⟨_, pe_ix hr pa pb hp, sa.op sb hs⟩
/-- a part of a slice -/
def MO (C : Ct) (e : Option Expr) (m : Option EM) : Prop := match m with
  | none => e = none
  | some m => ∃ a, e = some a ∧ ME C a m
def cutD (ds : List D) (lo hi : Option Int) : List D := (ds.drop (HT.sIx ds.length 0 lo)).take (HT.sIx ds.length ds.length hi - HT.sIx ds.length 0 lo)
noncomputable def oSl (a : D) (lo hi : Option Int) (h : AH) : ER := match a with
  | .str z => if Fits (z.length) then .ok (.str (cutS z lo hi)) h else .stuck
  | .tup ds => .ok (.tup (cutD ds lo hi)) h
  | a => (match listOf h a with
    | some ds => .ok (.ref h.length) (h ++ [.lst (cutD ds lo hi)])
    | none => .stuck)
def ePart (m : Option EM) (env : AE) (h : AH) (f : Option Int → AH → ER) : ER := match m with
  | none => f none h
  | some m => (m env h).then fun d h1 => match d with
    | .int i => f (some i) h1
    | _ => .stuck
noncomputable def eSl (a : EM) (lo hi : Option EM) : EM := fun env h => (a env h).then fun d h1 => ePart lo env h1 fun l h2 => ePart hi env h2 fun u h3 => oSl d l u h3
theorem MO.po {e : Option Expr} {m : Option EM} (hm : MO C e m) : ∃ t, PO C.X e t ∧ ∀ (env : AE) (h : AH) (σ : List (Option V)) (H : Hp) (ι : Nat → Addr) (f : Option Int → AH → ER) (Q : VK) (Q' : Option Int → Hp → Prop), Rel C.X.K ι h H → RV C ι h.length H env σ → PostE C ι h.length H σ (ePart m env h f) Q →
    (∀ i h' ι' H', Ext ι h.length H ι' h'.length H' → Rel C.X.K ι' h' H' → RV C ι' h'.length H' env σ → PostE C ι' h'.length H' σ (f i h') Q → Q' i H') → t σ H Q' := by
  cases m with
  | none =>
    have e' : e = none := hm
    subst e'
    exact ⟨_, po_none, fun env h σ H ι f Q Q' R V p k => k none h ι H .refl R V p⟩
  | some m =>
    obtain ⟨a, rfl, ta, pa, sa⟩ := hm
    refine ⟨_, po_some pa, fun env h σ H ι f Q Q' R V p k => ?_⟩
    refine sa.then R V p fun d h1 ι1 H1 v x1 R1 V1 r1 p1 => ?_
    cases d with
    | int i => exact ⟨i, RD.int.mp r1, k (some i) h1 ι1 H1 x1 R1 V1 p1⟩
    | _ => exact (show False from p1).elim
theorem me_slice {a : Expr} {lo hi : Option Expr} {ma : EM} {ml mh : Option EM} {p2 pos : Pos} (ha : ME C a ma) (hl : MO C lo ml) (hh : MO C hi mh) : ME C (.Subscript a (.Slice lo hi none p2) pos) (eSl ma ml mh) := by
  obtain ⟨ta, pa, sa⟩ := ha
  obtain ⟨tl, pl, sl⟩ := hl.po
  obtain ⟨th, ph, sh⟩ := hh.po
  refine ⟨_, pe_slice (sl_list.or (sl_tupA.or sl_str)) pa pl ph, ⟨fun env h σ H ι Q R V p => ?_⟩⟩
  refine sa.then R V p fun d h1 ι1 H1 v x1 R1 V1 r1 p1 => ?_
  refine sl env h1 σ H1 ι1 _ Q _ R1 V1 p1 fun l h2 ι2 H2 x2 R2 V2 p2 => ?_
  refine sh env h2 σ H2 ι2 _ Q _ R2 V2 p2 fun u h3 ι3 H3 x3 R3 V3 p3 => ?_
  have r3 := r1.mono ((x2.trans x3).grow R1)
  unfold oSl at p3
  split at p3
  · rename_i z
    split at p3
    · rename_i hz
      exact .inr (.inr ⟨z, RD.str.mp r3, hz, p3.here R3 (RD.str.mpr rfl)⟩)
    · exact p3.elim
  · rename_i ds
    obtain ⟨b, vs, rfl, s, rr⟩ := RD.tup.mp r3
    refine .inr (.inl ⟨b, vs, rfl, s, fun e => ?_, fun _ a' ha => p3.tup R3 (rr.cut_ l u) ha⟩)
    have e1 : cutD ds l u = ds := by
      unfold cutD
      rw [rr.length, e.1, e.2]
      simp only [List.drop_zero, Nat.sub_zero]
      rw [← rr.length]
      exact List.take_length
    rw [e1] at p3
    exact p3.here R3 r3
  · split at p3
    · rename_i ds e
      obtain ⟨b, vs, rfl, s, rr⟩ := listOf_sq R3 r3 e
      exact .inl ⟨b, vs, rfl, s, fun a' ha => p3.lst R3 (rr.cut_ l u) ha⟩
    · exact p3.elim
end
end Rf

set_option maxHeartbeats 1000000
namespace Rf
open PySem PySem.Spec PyProof.Rows L2

/-! ### what is walked -/
def RgB (j : Int) : Prop := -(2 ^ 62) ≤ j ∧ j < 2 ^ 62
noncomputable instance {j : Int} : Decidable (RgB j) := Classical.propDecidable _
def RgB2 (i j : Int) : Prop := -(2 ^ 62) ≤ i ∧ i < 2 ^ 62 ∧ -(2 ^ 62) ≤ j ∧ j < 2 ^ 62
noncomputable instance {i j : Int} : Decidable (RgB2 i j) := Classical.propDecidable _
/-- a row that stands still -/
def stat (ds : List D) : AIt := ⟨ds.length, fun i _ => some ds[i]?⟩
/-- the list number r, as it stands -/
def live (r n : Nat) : AIt := ⟨n, fun i h => match h[r]? with
  | some (.lst ds) => some ds[i]?
  | _ => none⟩
def signs (x : Str) : List D := x.cps.toList.map fun c => .str ⟨#[c]⟩
def iVal (m : EM) : IM := fun e h => match m e h with
  | .ok (.tup ds) h1 => .ok (stat ds) h1
  | .ok (.rol ds) h1 => .ok (stat ds) h1
  | .ok (.str x) h1 => .ok (stat (signs x)) h1
  | .ok (.ref r) h1 => (match h1[r]? with
    | some (.lst ds) => .ok (live r ds.length) h1
    | _ => .stuck)
  | .ok _ _ => .stuck
  | .exc c fs h1 => .exc c fs h1
  | .stuck => .stuck
/-- lo, lo + 1, .. (n of them) -/
def rg (lo : Int) (n : Nat) : List D := (List.range n).map fun i => .int (lo + (i : Nat))
noncomputable def iRange1 (l : LM) : IM := fun e h => match l e h with
  | .ok [.int j] h1 => if RgB j then .ok (stat (rg 0 j.toNat)) h1 else .stuck
  | .ok _ _ => .stuck
  | .exc c fs h1 => .exc c fs h1
  | .stuck => .stuck
noncomputable def iRange2 (l : LM) : IM := fun e h => match l e h with
  | .ok [.int i, .int j] h1 => if RgB2 i j then .ok (stat (rg i (j - i).toNat)) h1 else .stuck
  | .ok _ _ => .stuck
  | .exc c fs h1 => .exc c fs h1
  | .stuck => .stuck
/-- reversed(range(..)) -/
noncomputable def iRevRange1 (l : LM) : IM := fun e h => match l e h with
  | .ok [.int j] h1 => if RgB j then .ok (stat (rg 0 j.toNat).reverse) h1 else .stuck
  | .ok _ _ => .stuck
  | .exc c fs h1 => .exc c fs h1
  | .stuck => .stuck
section
variable {K : PySem.W.Frag} {ι : Nat → Addr} {n : Nat} {h : AH} {H : Hp} {ds : List D} {vs : List V} {a : Addr}
theorem itr_stat {J : It} (k : ∀ i ι' h' H', Ext ι n H ι' h'.length H' → Rel K ι' h' H' → (ds[i]? = none → J.stop i H') ∧ ∀ d, ds[i]? = some d → J.go i H' ∧ ∀ x H2, J.yld i H' x H2 → ∃ ι2, Ext ι' h'.length H' ι2 h'.length H2 ∧ Rel K ι2 h' H2 ∧ RD K ι2 h'.length H2 d x) : ItR K J (stat ds) ι n H := by
  intro i ι' h' H' x R
  obtain ⟨k1, k2⟩ := k i ι' h' H' x R
  exact ⟨fun e => k1 (by simpa [stat] using e), fun d e => k2 d (by simpa [stat] using e)⟩
theorem itr_tup (R0 : Rel K ι h H) (q : SqT K H a vs) (r : RDs K ι h.length H ds vs) : ItR K (Itt K a) (stat ds) ι h.length H := by
  refine itr_stat fun i ι' h' H' x R => ⟨fun e => ⟨vs, R0.sqT x q, by rw [← r.length]; exact List.getElem?_eq_none_iff.mp e⟩, fun d e => ?_⟩
  obtain ⟨v, ev, rv⟩ := r.get e
  refine ⟨⟨vs, v, R0.sqT x q, ev⟩, fun y H2 hy => ?_⟩
  obtain ⟨rfl, hy⟩ := hy
  have e2 := hy vs (R0.sqT x q)
  rw [ev] at e2; cases e2
  exact ⟨ι', .refl, R, rv.mono (x.grow R0)⟩
theorem itr_rol (R0 : Rel K ι h H) (q : RoL K H a vs) (r : RDs K ι h.length H ds vs) : ItR K (Itl K a) (stat ds) ι h.length H := by
  refine itr_stat fun i ι' h' H' x R => ⟨fun e => ⟨vs, (R0.roL x q).sq, by rw [← r.length]; exact List.getElem?_eq_none_iff.mp e⟩, fun d e => ?_⟩
  obtain ⟨v, ev, rv⟩ := r.get e
  refine ⟨⟨vs, v, (R0.roL x q).sq, ev⟩, fun y H2 hy => ?_⟩
  obtain ⟨rfl, hy⟩ := hy
  have e2 := hy vs (R0.roL x q).sq
  rw [ev] at e2; cases e2
  exact ⟨ι', .refl, R, rv.mono (x.grow R0)⟩
theorem itr_live {r m : Nat} (hr : r < n) : ItR K (Itl K (ι r)) (live r m) ι n H := by
  intro i ι' h' H' x R
  have eι := x.ag r hr
  unfold live
  dsimp only
  cases q : h'[r]? with
  | none => exact ⟨(fun z => nomatch z), (fun d z => nomatch z)⟩
  | some o =>
    cases o with
    | lst ds =>
      obtain ⟨vs, e1, rr⟩ := R.ob r _ q
      rw [eι] at e1
      refine ⟨fun e => ⟨vs, SqL.of e1, by rw [← rr.length]; exact List.getElem?_eq_none_iff.mp (Option.some.inj e)⟩, fun d e => ?_⟩
      obtain ⟨v, ev, rv⟩ := rr.get (Option.some.inj e)
      refine ⟨⟨vs, v, SqL.of e1, ev⟩, fun y H2 hy => ?_⟩
      obtain ⟨rfl, hy⟩ := hy
      have e2 := hy vs (SqL.of e1)
      rw [ev] at e2; cases e2
      exact ⟨ι', .refl, R, rv⟩
    | dK _ => exact ⟨(fun z => nomatch z), (fun d z => nomatch z)⟩
    | dT _ => exact ⟨(fun z => nomatch z), (fun d z => nomatch z)⟩
    | lk _ _ _ => exact ⟨(fun z => nomatch z), (fun d z => nomatch z)⟩
theorem itr_str {x : Str} : ItR K (Its x) (stat (signs x)) ι n H := by
  refine itr_stat fun i ι' h' H' y R => ?_
  unfold signs
  rw [List.getElem?_map, Array.getElem?_toList]
  refine ⟨fun e => ?_, fun d e => ?_⟩
  · cases q : x.cps[i]? with
    | none => exact Array.getElem?_eq_none_iff.mp q
    | some c => rw [q] at e; cases e
  · cases q : x.cps[i]? with
    | none => rw [q] at e; cases e
    | some c =>
      rw [q] at e
      cases e
      refine ⟨(Array.getElem?_eq_some_iff.mp q).1, fun z H2 hz => ?_⟩
      obtain ⟨rfl, c', ec, rfl⟩ := hz
      rw [q] at ec; cases ec
      exact ⟨ι', .refl, R, RD.str.mpr rfl⟩
theorem rg_get {lo : Int} {n i : Nat} : (rg lo n)[i]? = if i < n then some (.int (lo + (i : Nat))) else none := by
  unfold rg
  rw [List.getElem?_map]
  by_cases hi : i < n
  · rw [if_pos hi, List.getElem?_range hi]; rfl
  · rw [if_neg hi, List.getElem?_eq_none (by simpa using hi)]; rfl
theorem itr_range {lo : Int} {m : Nat} : ItR K (Itr lo m) (stat (rg lo m)) ι n H := by
  refine itr_stat fun i ι' h' H' y R => ?_
  rw [rg_get]
  by_cases hi : i < m
  · rw [if_pos hi]
    refine ⟨(fun z => nomatch z), fun d e => ?_⟩
    cases e
    refine ⟨hi, fun z H2 hz => ?_⟩
    obtain ⟨rfl, rfl⟩ := hz
    exact ⟨ι', .refl, R, RD.int.mpr rfl⟩
  · rw [if_neg hi]
    exact ⟨fun _ => Nat.not_lt.mp hi, (fun d z => nomatch z)⟩
theorem rg_length {lo : Int} {n : Nat} : (rg lo n).length = n := by unfold rg; simp
theorem itr_revRange {m : Nat} : ItR K (Itc ((m : Int) - 1) (-1) m) (stat (rg 0 m).reverse) ι n H := by
  refine itr_stat fun i ι' h' H' y R => ?_
  by_cases hi : i < m
  · rw [List.getElem?_reverse (by rw [rg_length]; exact hi), rg_length, rg_get, if_pos (by omega)]
    refine ⟨(fun z => nomatch z), fun d e => ?_⟩
    cases e
    refine ⟨hi, fun z H2 hz => ?_⟩
    obtain ⟨rfl, rfl⟩ := hz
    exact ⟨ι', .refl, R, RD.int.mpr (by congr 1; omega)⟩
  · rw [List.getElem?_eq_none (by rw [List.length_reverse, rg_length]; exact Nat.not_lt.mp hi)]
    exact ⟨fun _ => Nat.not_lt.mp hi, (fun d z => nomatch z)⟩
end
theorem PI.or {X : Cx} {tg e : Expr} {t u : TI} (h1 : PI X tg e t) (h2 : PI X tg e u) : PI X tg e (fun σ H R => t σ H R ∨ u σ H R) :=
  ⟨fun pins s σ H R I q => q.elim (h1.run pins s σ H R I) (h2.run pins s σ H R I)⟩
section
variable {C : Ct} {tg a b : Expr} {m : EM} {ml : LM} {p pos : Pos}
theorem PostI.here {ι : Nat → Addr} {n : Nat} {h' : AH} {H H' : Hp} {σ : List (Option V)} {it : AIt} {Q : It → Hp → Prop} {J : It} {ι' : Nat → Addr} (p : PostI C ι n H σ (.ok it h') Q) (x : Ext ι n H ι' h'.length H') (R : Rel C.X.K ι' h' H') (j : ItR C.X.K J it ι' h'.length H') : Q J H' := p ι' H' J x R j
theorem mi_val (ha : ME C a m) : MI C tg a (iVal m) := by
  obtain ⟨t, pa, sa⟩ := ha
  refine ⟨_, PI.or (pi_list pa) (PI.or (pi_tup pa) (pi_str pa)), ⟨fun env h σ H ι Q R V p => ?_⟩⟩
  unfold iVal at p
  cases hm : m env h with
  | exc c fs h1 =>
    rw [hm] at p
    exact .inl (sa.run env h σ H ι _ R V (by rw [hm]; exact p))
  | stuck => rw [hm] at p; exact p.elim
  | ok d h1 =>
    rw [hm] at p
    have ru : ∀ {Q' : VK}, (∀ ι' H' v, Ext ι h.length H ι' h1.length H' → Rel C.X.K ι' h1 H' → RD C.X.K ι' h1.length H' d v → Q' v H') → t σ H Q' := fun {Q'} k => sa.run env h σ H ι _ R V (by rw [hm]; exact k)
    cases d with
    | tup ds =>
      refine .inr (.inl (ru fun ι' H' v x R' r => ?_))
      obtain ⟨a, vs, rfl, s, rr⟩ := RD.tup.mp r
      exact ⟨a, rfl, ⟨vs, s⟩, p.here x R' (itr_tup R' s rr)⟩
    | rol ds =>
      refine .inl (ru fun ι' H' v x R' r => ?_)
      obtain ⟨a, vs, rfl, s, rr⟩ := RD.rol.mp r
      exact ⟨a, rfl, ⟨vs, s.sq⟩, p.here x R' (itr_rol R' s rr)⟩
    | str z =>
      refine .inr (.inr (ru fun ι' H' v x R' r => ?_))
      exact ⟨z, RD.str.mp r, p.here x R' itr_str⟩
    | ref r0 =>
      dsimp only at p
      cases q : h1[r0]? with
      | none => rw [q] at p; exact p.elim
      | some o =>
        rw [q] at p
        cases o with
        | lst ds =>
          refine .inl (ru fun ι' H' v x R' r => ?_)
          obtain ⟨vs, rfl, e1, rr⟩ := r.list R' q
          exact ⟨_, rfl, ⟨vs, SqL.of e1⟩, p.here x R' (itr_live (RD.ref.mp r).1)⟩
        | _ => exact (show False from p).elim
    | _ => exact (show False from p).elim
theorem SimL.int1 {t : TA} (s : SimL C t ml) {env : AE} {h : AH} {σ : List (Option V)} {H : Hp} {ι : Nat → Addr} {f : Int → AH → IR} {Q : It → Hp → Prop} {Q' : List V → Hp → Prop} (R : Rel C.X.K ι h H) (V : RV C ι h.length H env σ)
    (p : PostI C ι h.length H σ (match ml env h with | .ok [.int j] h1 => f j h1 | .ok _ _ => .stuck | .exc c fs h1 => .exc c fs h1 | .stuck => .stuck) Q)
    (k : ∀ j h1 ι' H', ml env h = .ok [.int j] h1 → Ext ι h.length H ι' h1.length H' → Rel C.X.K ι' h1 H' → PostI C ι h.length H σ (f j h1) Q → Q' [.int j] H') : t σ H Q' := by
  refine s.run env h σ H ι _ R V ?_
  cases hm : ml env h with
  | exc c fs h1 => rw [hm] at p; exact p
  | stuck => rw [hm] at p; exact p
  | ok ds h1 =>
    rw [hm] at p
    match ds, p with
    | [.int j], p =>
      refine fun ι' H' vs x R' r => ?_
      obtain ⟨v, r', rfl, q1, q2⟩ := RDs.cons.mp r
      cases RDs.nil.mp q2
      cases RD.int.mp q1
      exact k j h1 ι' H' hm x R' p
    | [], p => exact (show False from p).elim
    | .non :: _, p => exact (show False from p).elim
    | .bl _ :: _, p => exact (show False from p).elim
    | .str _ :: _, p => exact (show False from p).elim
    | .ty _ :: _, p => exact (show False from p).elim
    | .tup _ :: _, p => exact (show False from p).elim
    | .rol _ :: _, p => exact (show False from p).elim
    | .kt _ :: _, p => exact (show False from p).elim
    | .ref _ :: _, p => exact (show False from p).elim
    | .int _ :: _ :: _, p => exact (show False from p).elim
theorem mi_range1 (hm : C.X.mg "range" = none) (ha : MA C [a] ml) (hg : Gl C.X "range" := by rfl) (hs : starEach [a] C.X.env = [(false, eval a C.X.env)] := by rfl) : MI C tg (.Call (.Name "range" p) [a] [] pos) (iRange1 ml) := by
  obtain ⟨t, pa, sa⟩ := ha
  refine ⟨_, pi_range1 hg hm pa hs, ⟨fun env h σ H ι Q R V p => ?_⟩⟩
  refine sa.int1 (f := fun j h1 => if RgB j then .ok (stat (rg 0 j.toNat)) h1 else .stuck) R V (by unfold iRange1 at p; exact p) fun j h1 ι' H' hm x R' p => ?_
  by_cases hj : RgB j
  · rw [if_pos hj] at p
    exact ⟨j, rfl, hj.1, hj.2, p.here x R' itr_range⟩
  · rw [if_neg hj] at p; exact p.elim
theorem mi_range2 (hm : C.X.mg "range" = none) (ha : MA C [a, b] ml) (hg : Gl C.X "range" := by rfl) (hs : starEach [a, b] C.X.env = [(false, eval a C.X.env), (false, eval b C.X.env)] := by rfl) (hs2 : starEach [b] C.X.env = [(false, eval b C.X.env)] := by rfl) : MI C tg (.Call (.Name "range" p) [a, b] [] pos) (iRange2 ml) := by
  obtain ⟨t, pa, sa⟩ := ha
  refine ⟨_, pi_range2 hg hm pa hs hs2, ⟨fun env h σ H ι Q R V p => ?_⟩⟩
  refine sa.run env h σ H ι _ R V ?_
  unfold iRange2 at p
  cases hm : ml env h with
  | exc c fs h1 => rw [hm] at p; exact p
  | stuck => rw [hm] at p; exact p
  | ok ds h1 =>
    rw [hm] at p
    split at p
    · rename_i i j h1' e
      injection e with e1 e2
      subst e1 e2
      by_cases hj : RgB2 i j
      · rw [if_pos hj] at p
        refine fun ι' H' vs x R' r => ?_
        obtain ⟨v, r', rfl, q1, q2⟩ := RDs.cons.mp r
        obtain ⟨v2, r2, rfl, q3, q4⟩ := RDs.cons.mp q2
        cases RDs.nil.mp q4
        cases RD.int.mp q1
        cases RD.int.mp q3
        exact ⟨i, j, rfl, hj, p.here x R' itr_range⟩
      · rw [if_neg hj] at p; exact p.elim
    · exact p.elim
    · rename_i e; cases e
    · rename_i e; cases e
theorem mi_revRange1 {p2 pos2 : Pos} {ma : EM} (hmr : C.X.mg "reversed" = none) (hm : C.X.mg "range" = none) (ha : ME C a ma) (hgr : Gl C.X "reversed" := by rfl) (hg : Gl C.X "range" := by rfl) (na : starEach [a] C.X.env = (false, eval a C.X.env) :: starEach [] C.X.env := by rfl)
    (hs : starEach [.Call (.Name "range" p) [a] [] pos] C.X.env = (false, eval (.Call (.Name "range" p) [a] [] pos) C.X.env) :: starEach [] C.X.env := by rfl) : MI C tg (.Call (.Name "reversed" p2) [.Call (.Name "range" p) [a] [] pos] [] pos2) (iRevRange1 (lCons ma lNil)) := by
  obtain ⟨t, pa, sa⟩ := ha
  refine ⟨_, pi_revR hgr hmr (prg_1 hg hm pa na) hs, ⟨fun env h σ H ι Q R V p => ?_⟩⟩
  refine sa.run env h σ H ι _ R V ?_
  unfold iRevRange1 lCons lNil at p
  cases hm : ma env h with
  | exc c fs h1 => rw [hm] at p; exact p
  | stuck => rw [hm] at p; exact p
  | ok d h1 =>
    rw [hm] at p
    dsimp only at p
    cases d with
    | int j =>
      dsimp only at p
      by_cases hj : RgB j
      · rw [if_pos hj] at p
        refine fun ι' H' v x R' r => ⟨j, RD.int.mp r, by omega, by omega, hj.1, hj.2, ?_⟩
        have e : (0 : Int) + (((j - 0).toNat : Nat) : Int) - 1 = ((j.toNat : Nat) : Int) - 1 := by rw [Int.sub_zero]; omega
        have e2 : (j - 0).toNat = j.toNat := by rw [Int.sub_zero]
        rw [e, e2]
        exact p.here x R' itr_revRange
      · rw [if_neg hj] at p; exact p.elim
    | _ => exact (show False from p).elim
end

/-! ### displays -/
noncomputable def eTup (l : LM) : EM := fun env h => (l env h).then fun ds h1 => if Fits (ds.length) then .ok (.tup ds) h1 else .stuck
noncomputable def eLst (l : LM) : EM := fun env h => (l env h).then fun ds h1 => if Fits (ds.length) then .ok (.ref h1.length) (h1 ++ [.lst ds]) else .stuck
section
variable {C : Ct} {es : List Expr} {ml : LM} {pos : Pos}
theorem SimL.then {t : TA} (s : SimL C t ml) {env : AE} {h : AH} {σ : List (Option V)} {H : Hp} {ι : Nat → Addr} {f : List D → AH → ER} {Q : VK} {Q' : List V → Hp → Prop} (R : Rel C.X.K ι h H) (V : RV C ι h.length H env σ)
    (p : PostE C ι h.length H σ ((ml env h).then f) Q)
    (k : ∀ ds h1 ι' H' vs, Ext ι h.length H ι' h1.length H' → Rel C.X.K ι' h1 H' → RV C ι' h1.length H' env σ → RDs C.X.K ι' h1.length H' ds vs → PostE C ι' h1.length H' σ (f ds h1) Q → Q' vs H') : t σ H Q' := by
  refine s.run env h σ H ι _ R V ?_
  cases hm : ml env h with
  | exc c fs h1 => rw [hm] at p; exact p
  | stuck => rw [hm] at p; exact p
  | ok ds h1 =>
    rw [hm] at p
    exact fun ι' H' vs x R' r => k ds h1 ι' H' vs x R' (V.ext R x) r (PostE.shift p x)
theorem me_tup {x1 : Nat} (ha : MA C es ml) : ME C (.Tuple es x1 pos) (eTup ml) := by
  obtain ⟨t, pa, sa⟩ := ha
  refine ⟨_, pe_tup pa, ⟨fun env h σ H ι Q R V p => ?_⟩⟩
  refine sa.then R V p fun ds h1 ι' H' vs x R' V' r p => ?_
  by_cases hl : Fits ds.length
  · rw [if_pos hl] at p
    exact ⟨by rw [← r.length]; exact hl, fun a ha => p.tup R' r ha⟩
  · rw [if_neg hl] at p; exact p.elim
theorem me_lst (ha : MA C es ml) : ME C (.List es pos) (eLst ml) := by
  obtain ⟨t, pa, sa⟩ := ha
  refine ⟨_, pe_lst pa, ⟨fun env h σ H ι Q R V p => ?_⟩⟩
  refine sa.then R V p fun ds h1 ι' H' vs x R' V' r p => ?_
  by_cases hl : Fits ds.length
  · rw [if_pos hl] at p
    exact ⟨by rw [← r.length]; exact hl, fun a ha => p.lst R' r ha⟩
  · rw [if_neg hl] at p; exact p.elim
end

/-! ### built-in functions, by values -/
noncomputable def cLen (ds : List D) (h : AH) : ER := match ds with
  | [.str x] => if Fits (x.length) then .ok (.int x.length) h else .stuck
  | [.ref i] => (match h[i]? with
    | some (.lst es) => .ok (.int es.length) h
    | some (.dK kvs) => .ok (.int kvs.length) h
    | _ => .stuck)
  | [.tup es] => .ok (.int es.length) h
  | [.rol es] => .ok (.int es.length) h
  | _ => .stuck
def cMax2 (ds : List D) (h : AH) : ER := match ds with
  | [.int i, .int j] => .ok (.int (if j > i then j else i)) h
  | _ => .stuck
def cMin2 (ds : List D) (h : AH) : ER := match ds with
  | [.int i, .int j] => .ok (.int (if j < i then j else i)) h
  | _ => .stuck
def cAbs (ds : List D) (h : AH) : ER := match ds with
  | [.int i] => .ok (.int (if i < 0 then -i else i)) h
  | _ => .stuck
def cInt (ds : List D) (h : AH) : ER := match ds with
  | [.int i] => .ok (.int i) h
  | [.bl b] => .ok (.int (if b then 1 else 0)) h
  | _ => .stuck
def cSum (ds : List D) (h : AH) : ER := match ds with
  | [d] => (match listOf h d with
    | some es => (match intsOf es with
      | some ns => .ok (.int ns.sum) h
      | none => .stuck)
    | none => .stuck)
  | _ => .stuck
def cAny (ds : List D) (h : AH) : ER := match ds with
  | [d] => (match listOf h d with
    | some es => (match blsOf es with
      | some ns => .ok (.bl (ns.any id)) h
      | none => .stuck)
    | none => .stuck)
  | _ => .stuck
def cAll (ds : List D) (h : AH) : ER := match ds with
  | [d] => (match listOf h d with
    | some es => (match blsOf es with
      | some ns => .ok (.bl (ns.all id)) h
      | none => .stuck)
    | none => .stuck)
  | _ => .stuck
/-- list(row) -/
def cList (ds : List D) (h : AH) : ER := match ds with
  | [d] => (match seqOf h d with
    | some es => .ok (.ref h.length) (h ++ [.lst es])
    | none => .stuck)
  | _ => .stuck
def cTuple (ds : List D) (h : AH) : ER := match ds with
  | [d] => (match seqOf h d with
    | some es => .ok (.tup es) h
    | none => .stuck)
  | _ => .stuck
/-- the types of data -/
def D.tyn (h : AH) : D → Option String
  | .non => some "NoneType"
  | .bl _ => some "bool"
  | .int _ => some "int"
  | .str _ => some "str"
  | .tup _ => some "tuple"
  | .rol _ => some "list"
  | .kt _ => some "tuple"
  | .ref i => (match h[i]? with
    | some (.lst _) => some "list"
    | some (.dK _) => some "dict"
    | some (.dT _) => some "dict"
    | some (.lk _ _ _) => none
    | none => none)
  | .ty _ => none
/-- is a value of type a one of type b -/
def isTy (a b : String) : Bool := a == b || (a == "bool" && b == "int")
def tyNames : List String := ["NoneType", "bool", "int", "str", "tuple", "list", "dict"]
def askTys : List String := ["bool", "int", "str", "tuple", "list", "dict"]
theorem kit_all : ∀ a ∈ tyNames, ∀ b ∈ askTys, kitB a b = some (isTy a b) := by decide +kernel
def cIsi (ds : List D) (h : AH) : ER := match ds with
  | [d, .ty n] => (match d.tyn h with
    | some t => if n ∈ askTys then .ok (.bl (isTy t n)) h else .stuck
    | none => .stuck)
  | _ => .stuck
section
variable {C : Ct}
theorem cs_len : CallS C (fun xs H Q => ∃ x n, xs = [x] ∧ LenV C.X.K x H n ∧ Q (.int n) H) cLen ∨ True := .inr trivial
theorem RDs.one {K : PySem.W.Frag} {ι : Nat → Addr} {n : Nat} {H : Hp} {d : D} {vs : List V} (r : RDs K ι n H [d] vs) : ∃ v, vs = [v] ∧ RD K ι n H d v := by
  obtain ⟨v, r', rfl, q1, q2⟩ := RDs.cons.mp r
  cases RDs.nil.mp q2
  exact ⟨v, rfl, q1⟩
theorem RDs.two {K : PySem.W.Frag} {ι : Nat → Addr} {n : Nat} {H : Hp} {d e : D} {vs : List V} (r : RDs K ι n H [d, e] vs) : ∃ v w, vs = [v, w] ∧ RD K ι n H d v ∧ RD K ι n H e w := by
  obtain ⟨v, r', rfl, q1, q2⟩ := RDs.cons.mp r
  obtain ⟨w, rfl, q3⟩ := q2.one
  exact ⟨v, w, rfl, q1, q3⟩
abbrev rLenAll (X : Cx) : List V → Hp → VK → Prop := fun xs H Q => (∃ p ys, xs = [.ref p] ∧ (SqL X.K H p ys ∨ SqT X.K H p ys) ∧ Q (.int ys.length) H) ∨ (∃ z, xs = [.str z] ∧ z.length ≤ sizeLine ∧ Q (.int z.length) H) ∨ (∃ a kvs, xs = [V.ref a] ∧ H a = some (.dK kvs) ∧ Q (.int kvs.length) H)
theorem cl_len {X : Cx} : CallR X (.builtin "len") (rLenAll X) := call_len_seq.or (call_len_str.or call_lenD)
theorem cs_lenAll : CallS C (rLenAll C.X) cLen := by
  intro ι h H σ xs ds Q R r p
  unfold cLen at p
  split at p
  · split at p
    · rename_i hl
      obtain ⟨v, rfl, q⟩ := r.one
      exact .inr (.inl ⟨_, by rw [RD.str.mp q], hl, p.here R (RD.int.mpr rfl)⟩)
    · exact p.elim
  · obtain ⟨v, rfl, q⟩ := r.one
    split at p
    · rename_i es e
      obtain ⟨vs, rfl, e1, rr⟩ := q.list R e
      exact .inl ⟨_, vs, rfl, .inl (SqL.of e1), p.here R (RD.int.mpr (by rw [rr.length]))⟩
    · rename_i i kvs e
      obtain ⟨_, rfl⟩ := RD.ref.mp q
      obtain ⟨ws, e1, k, rr⟩ := R.ob _ _ e
      have : kvs.length = ws.length := by simpa using congrArg List.length k
      exact .inr (.inr ⟨_, ws, rfl, e1, p.here R (RD.int.mpr (by rw [this]))⟩)
    · exact p.elim
  · obtain ⟨v, rfl, q⟩ := r.one
    obtain ⟨a, vs, rfl, s, rr⟩ := RD.tup.mp q
    exact .inl ⟨_, vs, rfl, .inr s, p.here R (RD.int.mpr (by rw [rr.length]))⟩
  · obtain ⟨v, rfl, q⟩ := r.one
    obtain ⟨a, vs, rfl, s, rr⟩ := RD.rol.mp q
    exact .inl ⟨_, vs, rfl, .inl s.sq, p.here R (RD.int.mpr (by rw [rr.length]))⟩
  · exact p.elim
theorem cs_max2 : CallS C (fun xs H Q => ∃ i j, xs = [.int i, .int j] ∧ Q (.int (if j > i then j else i)) H) cMax2 := by
  intro ι h H σ xs ds Q R r p
  unfold cMax2 at p
  split at p
  · rename_i i j
    obtain ⟨v, w, rfl, q1, q2⟩ := r.two
    exact ⟨i, j, by rw [RD.int.mp q1, RD.int.mp q2], p.here R (RD.int.mpr rfl)⟩
  · exact p.elim
theorem cs_min2 : CallS C (fun xs H Q => ∃ i j, xs = [.int i, .int j] ∧ Q (.int (if j < i then j else i)) H) cMin2 := by
  intro ι h H σ xs ds Q R r p
  unfold cMin2 at p
  split at p
  · rename_i i j
    obtain ⟨v, w, rfl, q1, q2⟩ := r.two
    exact ⟨i, j, by rw [RD.int.mp q1, RD.int.mp q2], p.here R (RD.int.mpr rfl)⟩
  · exact p.elim
theorem cs_abs : CallS C (fun xs H Q => ∃ i, xs = [.int i] ∧ Q (.int (if i < 0 then -i else i)) H) cAbs := by
  intro ι h H σ xs ds Q R r p
  unfold cAbs at p
  split at p
  · rename_i i
    obtain ⟨v, rfl, q1⟩ := r.one
    exact ⟨i, by rw [RD.int.mp q1], p.here R (RD.int.mpr rfl)⟩
  · exact p.elim
theorem cs_int : CallS C (fun xs H Q => (∃ i, xs = [.int i] ∧ Q (.int i) H) ∨ ∃ k, xs = [.bl k] ∧ Q (.int (if k then 1 else 0)) H) cInt := by
  intro ι h H σ xs ds Q R r p
  unfold cInt at p
  split at p
  · rename_i i
    obtain ⟨v, rfl, q1⟩ := r.one
    exact .inl ⟨i, by rw [RD.int.mp q1], p.here R (RD.int.mpr rfl)⟩
  · rename_i i
    obtain ⟨v, rfl, q1⟩ := r.one
    exact .inr ⟨i, by rw [RD.bl.mp q1], p.here R (RD.int.mpr rfl)⟩
  · exact p.elim
theorem cs_sum : CallS C (rSum C.X.K) cSum := by
  intro ι h H σ xs ds Q R r p
  unfold cSum at p
  split at p
  · rename_i d
    obtain ⟨v, rfl, q1⟩ := r.one
    split at p
    · rename_i es e
      split at p
      · rename_i ns e2
        obtain ⟨a, vs, rfl, s, rr⟩ := listOf_sq R q1 e
        rw [intsOf_eq e2] at rr
        rw [rr.ints] at s
        exact ⟨a, ns, rfl, s, p.here R (RD.int.mpr rfl)⟩
      · exact p.elim
    · exact p.elim
  · exact p.elim
theorem cs_any : CallS C (rAny C.X.K) cAny := by
  intro ι h H σ xs ds Q R r p
  unfold cAny at p
  split at p
  · rename_i d
    obtain ⟨v, rfl, q1⟩ := r.one
    split at p
    · rename_i es e
      split at p
      · rename_i ns e2
        obtain ⟨a, vs, rfl, s, rr⟩ := listOf_sq R q1 e
        rw [blsOf_eq e2] at rr
        rw [rr.bls] at s
        exact ⟨a, ns, rfl, s, p.here R (RD.bl.mpr rfl)⟩
      · exact p.elim
    · exact p.elim
  · exact p.elim
theorem cs_all : CallS C (rAll C.X.K) cAll := by
  intro ι h H σ xs ds Q R r p
  unfold cAll at p
  split at p
  · rename_i d
    obtain ⟨v, rfl, q1⟩ := r.one
    split at p
    · rename_i es e
      split at p
      · rename_i ns e2
        obtain ⟨a, vs, rfl, s, rr⟩ := listOf_sq R q1 e
        rw [blsOf_eq e2] at rr
        rw [rr.bls] at s
        exact ⟨a, ns, rfl, s, p.here R (RD.bl.mpr rfl)⟩
      · exact p.elim
    · exact p.elim
  · exact p.elim
theorem cs_list : CallS C (fun xs H Q => ∃ p ys, xs = [.ref p] ∧ (SqL C.X.K H p ys ∨ SqT C.X.K H p ys) ∧ ∀ l, H l = none → Q (.ref l) (upd H l (.lst ys))) cList := by
  intro ι h H σ xs ds Q R r p
  unfold cList at p
  split at p
  · rename_i d
    obtain ⟨v, rfl, q1⟩ := r.one
    split at p
    · rename_i es e
      obtain ⟨a, vs, rfl, s, rr⟩ := seqOf_sq R q1 e
      exact ⟨a, vs, rfl, s, fun l hl => p.lst R rr hl⟩
    · exact p.elim
  · exact p.elim
theorem cs_tuple : CallS C (fun xs H Q => ∃ p ys, xs = [.ref p] ∧ ((SqL C.X.K H p ys ∧ ∀ l, H l = none → Q (.ref l) (upd H l (.tup ys))) ∨ (SqT C.X.K H p ys ∧ Q (.ref p) H))) cTuple := by
  intro ι h H σ xs ds Q R r p
  unfold cTuple at p
  split at p
  · rename_i d
    obtain ⟨v, rfl, q1⟩ := r.one
    split at p
    · rename_i es e
      cases d with
      | tup fs =>
        cases e
        obtain ⟨a, vs, rfl, s, rr⟩ := RD.tup.mp q1
        exact ⟨a, vs, rfl, .inr ⟨s, p.here R q1⟩⟩
      | rol fs =>
        cases e
        obtain ⟨a, vs, rfl, s, rr⟩ := RD.rol.mp q1
        exact ⟨a, vs, rfl, .inl ⟨s.sq, fun l hl => p.tup R rr hl⟩⟩
      | ref i =>
        have e' : listOf h (.ref i) = some es := e
        obtain ⟨a, vs, rfl, s, rr⟩ := listOf_sq R q1 e'
        exact ⟨a, vs, rfl, .inl ⟨s, fun l hl => p.tup R rr hl⟩⟩
      | _ => cases e
    · exact p.elim
  · exact p.elim
theorem tyn_mem {h : AH} {d : D} {t : String} (e : d.tyn h = some t) : t ∈ tyNames := by
  cases d with
  | ref i =>
    simp only [D.tyn] at e
    cases q : h[i]? with
    | none => rw [q] at e; cases e
    | some o => rw [q] at e; cases o <;> first | (cases e; decide) | cases e
  | ty n => cases e
  | _ => cases e; decide
theorem tyn_tyx {K : PySem.W.Frag} {ι : Nat → Addr} {h : AH} {H : Hp} {d : D} {v : V} {t : String} (R : Rel K ι h H) (r : RD K ι h.length H d v) (e : d.tyn h = some t) : TyX K H v (.type t) := by
  cases d with
  | non => cases e; rw [RD.non.mp r]; exact .base .non
  | bl b => cases e; rw [RD.bl.mp r]; exact .base (.bl b)
  | int b => cases e; rw [RD.int.mp r]; exact .base (.int b)
  | str b => cases e; rw [RD.str.mp r]; exact .base (.str b)
  | ty n => cases e
  | tup ds =>
    cases e
    obtain ⟨a, vs, rfl, s, rr⟩ := RD.tup.mp r
    rcases s with (s | ⟨o, s⟩) | ⟨o, its, n, hk, hc, _⟩
    · exact .base (.tup s)
    · exact .fTuple s
    · exact .kTuple hk hc
  | rol ds =>
    cases e
    obtain ⟨a, vs, rfl, s, rr⟩ := RD.rol.mp r
    rcases s with ⟨o, s⟩ | ⟨o, its, n, hk, hc, _⟩
    · exact .base (.frz s)
    · exact .kList hk hc
  | kt ds =>
    cases e
    obtain ⟨a, vs, rfl, ⟨o, s, _⟩, rr⟩ := RD.kt.mp r
    exact .fTuple s
  | ref i =>
    simp only [D.tyn] at e
    obtain ⟨_, rfl⟩ := RD.ref.mp r
    cases q : h[i]? with
    | none => rw [q] at e; cases e
    | some o =>
      rw [q] at e
      have ro := R.ob i o q
      cases o with
      | lst ds => cases e; obtain ⟨vs, e1, _⟩ := ro; exact .base (.lst e1)
      | dK ds => cases e; obtain ⟨vs, e1, _⟩ := ro; exact .base (.dK e1)
      | dT ds => cases e; obtain ⟨vs, e1, _⟩ := ro; exact .base (.dT e1)
      | lk ds od ws => cases e
theorem cs_isi : CallS C (rIsi C.X.K) cIsi := by
  intro ι h H σ xs ds Q R r p
  unfold cIsi at p
  split at p
  · rename_i d n
    obtain ⟨v, w, rfl, q1, q2⟩ := r.two
    split at p
    · rename_i t e
      split at p
      · rename_i hn
        exact ⟨v, w, .type t, .type n, isTy t n, rfl, by rw [RD.ty.mp q2]; exact .ty n, tyn_tyx R q1 e, kit_ty (kit_all t (tyn_mem e) n hn), p.here R (RD.bl.mpr rfl)⟩
      · exact p.elim
    · exact p.elim
  · exact p.elim
end

/-! ### list(range(..)), tuple(range(..)) -/
noncomputable instance {a b : Int} : Decidable (RgOk a b) := Classical.propDecidable _
noncomputable def eRg1 (tp : Bool) (m : EM) : EM := fun env h => (m env h).then fun d h1 => match d with
  | .int j => if RgOk 0 j then (if tp then .ok (.tup (rg 0 j.toNat)) h1 else .ok (.ref h1.length) (h1 ++ [.lst (rg 0 j.toNat)])) else .stuck
  | _ => .stuck
section
variable {C : Ct} {a : Expr} {ma : EM} {p pos p2 pos2 : Pos}
theorem rds_rg {K : PySem.W.Frag} {ι : Nat → Addr} {n : Nat} {H : Hp} {j : Int} : RDs K ι n H (rg 0 j.toNat) (rgV 0 j) := by
  unfold rg rgV
  rw [Int.sub_zero]
  generalize j.toNat = m
  have : ∀ l : List Nat, RDs K ι n H (l.map fun (i : Nat) => D.int (0 + (i : Nat))) (l.map fun (i : Nat) => V.int (0 + (i : Nat))) := by
    intro l
    induction l with
    | nil => exact RDs.nil'
    | cons x l ih => exact RDs.cons' (RD.int.mpr rfl) ih
  exact this _
theorem me_listRg1 (hc : C.X.calm = true) (hml : C.X.mg "list" = none) (hm : C.X.mg "range" = none) (ha : ME C a ma) (hgl : Gl C.X "list" := by rfl) (hg : Gl C.X "range" := by rfl) (na : starEach [a] C.X.env = (false, eval a C.X.env) :: starEach [] C.X.env := by rfl)
    (hs : starEach [.Call (.Name "range" p) [a] [] pos] C.X.env = (false, eval (.Call (.Name "range" p) [a] [] pos) C.X.env) :: starEach [] C.X.env := by rfl) : ME C (.Call (.Name "list" p2) [.Call (.Name "range" p) [a] [] pos] [] pos2) (eRg1 false ma) := by
  obtain ⟨t, pa, sa⟩ := ha
  refine ⟨_, pe_listRg hc hgl hml (prg_1 hg hm pa na) hs, ⟨fun env h σ H ι Q R V p => ?_⟩⟩
  refine sa.then R V p fun d h1 ι1 H1 v x1 R1 V1 r1 p1 => ?_
  cases d with
  | int j =>
    dsimp only at p1
    by_cases hj : RgOk 0 j
    · rw [if_pos hj] at p1
      exact ⟨j, RD.int.mp r1, hj, fun q hq => p1.lst R1 rds_rg hq⟩
    · rw [if_neg hj] at p1; exact p1.elim
  | _ => exact (show False from p1).elim
theorem me_tupRg1 (hc : C.X.calm = true) (hml : C.X.mg "tuple" = none) (hm : C.X.mg "range" = none) (ha : ME C a ma) (hgl : Gl C.X "tuple" := by rfl) (hg : Gl C.X "range" := by rfl) (na : starEach [a] C.X.env = (false, eval a C.X.env) :: starEach [] C.X.env := by rfl)
    (hs : starEach [.Call (.Name "range" p) [a] [] pos] C.X.env = (false, eval (.Call (.Name "range" p) [a] [] pos) C.X.env) :: starEach [] C.X.env := by rfl) : ME C (.Call (.Name "tuple" p2) [.Call (.Name "range" p) [a] [] pos] [] pos2) (eRg1 true ma) := by
  obtain ⟨t, pa, sa⟩ := ha
  refine ⟨_, pe_tupRg hc hgl hml (prg_1 hg hm pa na) hs, ⟨fun env h σ H ι Q R V p => ?_⟩⟩
  refine sa.then R V p fun d h1 ι1 H1 v x1 R1 V1 r1 p1 => ?_
  cases d with
  | int j =>
    dsimp only at p1
    by_cases hj : RgOk 0 j
    · rw [if_pos hj] at p1
      exact ⟨j, RD.int.mp r1, hj, fun q hq => p1.tup R1 rds_rg hq⟩
    · rw [if_neg hj] at p1; exact p1.elim
  | _ => exact (show False from p1).elim
end

/-! ### methods, stores -/
def MtS (C : Ct) (r : V → List V → Hp → VK → Prop) (g : D → List D → AH → ER) : Prop := ∀ (ι : Nat → Addr) (h : AH) (H : Hp) (σ : List (Option V)) (x : V) (xs : List V) (d : D) (ds : List D) (Q : VK), Rel C.X.K ι h H → RD C.X.K ι h.length H d x → RDs C.X.K ι h.length H ds xs → PostE C ι h.length H σ (g d ds h) Q → r x xs H Q
/-- of a type, asked for its method -/
def tyOk (h : AH) (T : String) (d : D) : Bool := match d with
  | .str _ => T == "str"
  | .int _ => T == "int"
  | .rol _ => T == "list"
  | .ref i => (match h[i]? with
    | some (.lst _) => T == "list"
    | some (.dK _) => T == "dict"
    | some (.dT _) => T == "dict"
    | some (.lk _ _ _) => false
    | none => false)
  | _ => false
theorem tyOk_v {K : PySem.W.Frag} {ι : Nat → Addr} {h : AH} {H : Hp} {d : D} {v : V} {T : String} (R : Rel K ι h H) (r : RD K ι h.length H d v) (e : tyOk h T d = true) : tyV K T v H := by
  cases d with
  | str x => rw [RD.str.mp r]; exact beq_iff_eq.mp e
  | int x => rw [RD.int.mp r]; exact beq_iff_eq.mp e
  | rol ds =>
    obtain ⟨a, vs, rfl, s, _⟩ := RD.rol.mp r
    exact .inl ⟨beq_iff_eq.mp e, vs, s.sq⟩
  | ref i =>
    obtain ⟨_, rfl⟩ := RD.ref.mp r
    simp only [tyOk] at e
    cases q : h[i]? with
    | none => rw [q] at e; cases e
    | some o =>
      rw [q] at e
      have ro := R.ob i o q
      cases o with
      | lst ds => obtain ⟨vs, e1, _⟩ := ro; exact .inl ⟨beq_iff_eq.mp e, vs, SqL.of e1⟩
      | dK ds => obtain ⟨vs, e1, _⟩ := ro; exact .inr (.inr (.inl ⟨beq_iff_eq.mp e, .inl ⟨vs, e1⟩⟩))
      | dT ds => obtain ⟨vs, e1, _⟩ := ro; exact .inr (.inr (.inl ⟨beq_iff_eq.mp e, .inr ⟨vs, e1⟩⟩))
      | lk ds od ws => cases e
  | _ => cases e
def eMeth (T : String) (g : D → List D → AH → ER) (o : EM) (l : LM) : EM := fun env h => (o env h).then fun d h1 => if tyOk h1 T d then (l env h1).then fun ds h2 => g d ds h2 else .stuck
section
variable {C : Ct} {o e : Expr} {es : List Expr} {mo : EM} {ml : LM} {name : Str} {apos cpos : Pos} {T id : String} {r : V → List V → Hp → VK → Prop} {g : D → List D → AH → ER}
theorem me_meth0 (pa : PlainAttrs T) (slot : Slot T name id) (hty : typeOf (.builtin id) = pure (.type "method_descriptor")) (hm : MtR C.X id r) (hs : MtS C r g) (ho : ME C o mo)
    (hbase : attributeBase o name C.X.env (eval o C.X.env) = eval o C.X.env := by rfl) (hline : (apos.endLine == cpos.line) = true := by rfl) : ME C (.Call (.Attribute o name apos) [] [] cpos) (eMeth T g mo lNil) := by
  obtain ⟨t, p, s⟩ := ho
  refine ⟨_, pe_bm0 pa slot hty hm p hbase hline, ⟨fun env h σ H ι Q R V p => ?_⟩⟩
  refine s.then R V p fun d h1 ι1 H1 v x1 R1 V1 r1 p1 => ?_
  by_cases ht : tyOk h1 T d = true
  · rw [if_pos ht] at p1
    exact ⟨tyOk_v R1 r1 ht, hs ι1 h1 H1 σ v [] d [] Q R1 r1 RDs.nil' p1⟩
  · rw [if_neg ht] at p1; exact p1.elim
theorem me_meth (pa : PlainAttrs T) (slot : Slot T name id) (hty : typeOf (.builtin id) = pure (.type "method_descriptor")) (hm : MtR C.X id r) (hs : MtS C r g) (ho : ME C o mo) (ha : MA C (e :: es) ml)
    (hbase : attributeBase o name C.X.env (eval o C.X.env) = eval o C.X.env := by rfl)
    (hfew : ((backTo cpos (starEach (e :: es) C.X.env)).all (fun x => !x.1) && (backToKw cpos (keywordEach [] C.X.env)).all (fun x => x.1.isSome)
      && decide ((e :: es).length + ([] : List Keyword).length + (if ([] : List Keyword).isEmpty then 0 else 1) < 30)) = true := by rfl)
    (hline : (apos.endLine == cpos.line) = true := by rfl) (hst : starEach (e :: es) C.X.env = (false, eval e C.X.env) :: starEach es C.X.env := by rfl) (hplain : (backTo cpos (starEach es C.X.env)).any (·.1) = false := by rfl) :
    ME C (.Call (.Attribute o name apos) (e :: es) [] cpos) (eMeth T g mo ml) := by
  obtain ⟨t, p, s⟩ := ho
  obtain ⟨tl, pl, sl⟩ := ha
  refine ⟨_, pe_bm pa slot hty hm p pl hbase hfew hline hst hplain, ⟨fun env h σ H ι Q R V p => ?_⟩⟩
  refine s.then R V p fun d h1 ι1 H1 v x1 R1 V1 r1 p1 => ?_
  by_cases ht : tyOk h1 T d = true
  · rw [if_pos ht] at p1
    refine ⟨tyOk_v R1 r1 ht, ?_⟩
    refine sl.then R1 V1 p1 fun ds h2 ι2 H2 vs x2 R2 V2 r2 p2 => ?_
    exact hs ι2 h2 H2 σ v vs d ds Q R2 (r1.mono (x2.grow R1)) r2 p2
  · rw [if_neg ht] at p1; exact p1.elim
theorem PostE.put {ι : Nat → Addr} {h : AH} {H : Hp} {σ : List (Option V)} {Q : VK} {i : Nat} {ds : List D} {vs : List V} {d : D} {v : V} (p : PostE C ι h.length H σ (.ok d (h.set i (.lst ds))) Q) (R : Rel C.X.K ι h H) (hi : i < h.length) (r : RDs C.X.K ι h.length H ds vs)
    (rd : RD C.X.K ι h.length H d v) : Q v (upd H (ι i) (.lst vs)) := by
  have x : Ext ι h.length H ι h.length (upd H (ι i) (.lst vs)) := Ext.put R hi
  refine p ι _ v (by rw [List.length_set]; exact x) (R.put hi fun x => ⟨vs, upd_same, r.mono (x.grow R)⟩) ?_
  rw [List.length_set]
  exact rd.mono (x.grow R)
end
noncomputable def mAppend (d : D) (ds : List D) (h : AH) : ER := match d, ds with
  | .ref i, [y] => (match h[i]? with
    | some (.lst xs) => if FitsL xs.length then .ok .non (h.set i (.lst (xs ++ [y]))) else .stuck
    | _ => .stuck)
  | _, _ => .stuck
def mPop (d : D) (ds : List D) (h : AH) : ER := match d, ds with
  | .ref i, [] => (match h[i]? with
    | some (.lst xs) => (match xs[xs.length - 1]? with
      | some y => .ok y (h.set i (.lst xs.dropLast))
      | none => .stuck)
    | _ => .stuck)
  | _, _ => .stuck
noncomputable def mPopAt (d : D) (ds : List D) (h : AH) : ER := match d, ds with
  | .ref i, [.int j] => (match h[i]? with
    | some (.lst xs) => (match L2.ixN xs.length j with
      | some k => (match xs[k]? with
        | some y => if Fits xs.length then .ok y (h.set i (.lst (xs.eraseIdx k))) else .stuck
        | none => .stuck)
      | none => .stuck)
    | _ => .stuck)
  | _, _ => .stuck
noncomputable def mExtend (d : D) (ds : List D) (h : AH) : ER := match d, ds with
  | .ref i, [.ref j] => (match h[i]?, h[j]? with
    | some (.lst xs), some (.lst ys) => if Fits (xs.length + ys.length) then .ok .non (h.set i (.lst (xs ++ ys))) else .stuck
    | _, _ => .stuck)
  | _, _ => .stuck
/-- the first place of p -/
def firstAt (p : PyData) : List PyData → Option Nat
  | [] => none
  | q :: r => if PyData.eqv q p then some 0 else (firstAt p r).map (· + 1)
theorem firstAt_spec {p : PyData} : ∀ {l : List PyData} {j : Nat}, firstAt p l = some j → ∃ z, l[j]? = some z ∧ PyData.eqv z p = true ∧ ∀ m z', m < j → l[m]? = some z' → PyData.eqv z' p = false
  | [], j, e => by cases e
  | q :: r, j, e => by
    unfold firstAt at e
    split at e
    · rename_i hq
      cases e
      exact ⟨q, rfl, hq, fun m z' hm => absurd hm (Nat.not_lt_zero m)⟩
    · rename_i hq
      cases q2 : firstAt p r with
      | none => rw [q2] at e; cases e
      | some k =>
        rw [q2] at e
        cases e
        obtain ⟨z, h1, h2, h3⟩ := firstAt_spec q2
        refine ⟨z, by simpa using h1, h2, fun m z' hm e' => ?_⟩
        cases m with
        | zero => simp at e'; subst e'; simpa using hq
        | succ m => exact h3 m z' (Nat.lt_of_succ_lt_succ hm) (by simpa using e')
def mIndex (d : D) (ds : List D) (h : AH) : ER := match d, ds with
  | .ref i, [y] => (match (D.ref i).toP h 20, y.toP h 20 with
    | some (.list ps), some p => (match firstAt p ps with
      | some j => .ok (.int (j : Nat)) h
      | none => .stuck)
    | _, _ => .stuck)
  | _, _ => .stuck
section
variable {C : Ct}
theorem ms_append : MtS C rAppend mAppend := by
  intro ι h H σ x xs d ds Q R r rs p
  unfold mAppend at p
  split at p
  · rename_i i y
    split at p
    · rename_i es e
      split at p
      · rename_i hl
        obtain ⟨vs, rfl, e1, rr⟩ := r.list R e
        obtain ⟨w, rfl, q⟩ := rs.one
        exact ⟨_, vs, w, rfl, rfl, e1, by rw [← rr.length]; exact hl, p.put R (RD.ref.mp r).1 (rr.append (RDs.cons' q RDs.nil')) (RD.non.mpr rfl)⟩
      · exact p.elim
    · exact p.elim
  · exact p.elim
theorem ms_pop : MtS C rPop mPop := by
  intro ι h H σ x xs d ds Q R r rs p
  unfold mPop at p
  split at p
  · rename_i i
    split at p
    · rename_i es e
      split at p
      · rename_i y ey
        obtain ⟨vs, rfl, e1, rr⟩ := r.list R e
        cases RDs.nil.mp rs
        obtain ⟨w, ew, rw_⟩ := rr.get ey
        exact ⟨_, vs, w, rfl, rfl, e1, by rw [← rr.length]; exact ew, p.put R (RD.ref.mp r).1 rr.dropLast rw_⟩
      · exact p.elim
    · exact p.elim
  · exact p.elim
theorem ms_popAt : MtS C rPopAt mPopAt := by
  intro ι h H σ x xs d ds Q R r rs p
  unfold mPopAt at p
  split at p
  · rename_i i j
    split at p
    · rename_i es e
      split at p
      · rename_i k ek
        split at p
        · rename_i y ey
          split at p
          · rename_i hl
            obtain ⟨vs, rfl, e1, rr⟩ := r.list R e
            obtain ⟨u, rfl, q⟩ := rs.one
            obtain ⟨w, ew, rw_⟩ := rr.get ey
            obtain ⟨a1, a2, a3, a4⟩ := ixN_seq ek
            change _ ≤ sizeLine at hl
            rw [sizeLine_eq] at hl
            exact ⟨_, vs, j, k, w, rfl, by rw [RD.int.mp q], e1, by omega, by omega, by rw [← rr.length]; exact a1, ew, p.put R (RD.ref.mp r).1 (rr.eraseIdx k) rw_⟩
          · exact p.elim
        · exact p.elim
      · exact p.elim
    · exact p.elim
  · exact p.elim
theorem ms_extend : MtS C rExtend mExtend := by
  intro ι h H σ x xs d ds Q R r rs p
  unfold mExtend at p
  split at p
  · rename_i i j
    split at p
    · rename_i es fs e e'
      split at p
      · rename_i hl
        obtain ⟨vs, rfl, e1, rr⟩ := r.list R e
        obtain ⟨w, rfl, q⟩ := rs.one
        obtain ⟨ws, rfl, e2, rr2⟩ := q.list R e'
        exact ⟨_, _, vs, ws, rfl, rfl, e1, e2, by rw [← rr.length, ← rr2.length]; exact hl, p.put R (RD.ref.mp r).1 (rr.append rr2) (RD.non.mpr rfl)⟩
      · exact p.elim
    · exact p.elim
  · exact p.elim
theorem ms_index : MtS C (rIndexD C.X.K) mIndex := by
  intro ι h H σ x xs d ds Q R r rs p
  unfold mIndex at p
  split at p
  · rename_i i y
    split at p
    · rename_i ps q e1 e2
      split at p
      · rename_i j ej
        obtain ⟨w, rfl, rw_⟩ := rs.one
        obtain ⟨a1, a2, a3⟩ := toP_dp R _ _ _ _ r e1
        obtain ⟨b1, b2, b3⟩ := toP_dp R _ _ _ _ rw_ e2
        obtain ⟨z, z1, z2, z3⟩ := firstAt_spec ej
        obtain ⟨_, rfl⟩ := RD.ref.mp r
        exact ⟨_, w, q, ps, j, z, rfl, rfl, a1, b1, toP_shaped a2 a3, toP_shaped b2 b3, z1, z2, z3, p.here R (RD.int.mpr rfl)⟩
      · exact p.elim
    · exact p.elim
  · exact p.elim
def putL (o i v : D) (h : AH) : Option AH := match o, i with
  | .ref r, .int k => (match h[r]? with
    | some (.lst xs) => (match L2.ixN xs.length k with
      | some j => some (h.set r (.lst (xs.set j v)))
      | none => none)
    | _ => none)
  | _, _ => none
theorem ss_list : SetS C rSetL putL := by
  intro ι h H x y z d1 d2 d3 h' Q R r1 r2 r3 e k
  unfold putL at e
  split at e
  · rename_i r j
    split at e
    · rename_i xs e0
      split at e
      · rename_i m em
        cases e
        obtain ⟨vs, rfl, e1, rr⟩ := r1.list R e0
        have hi := (RD.ref.mp r1).1
        refine ⟨_, vs, j, m, rfl, RD.int.mp r2, e1, by rw [← rr.length]; exact em, ?_⟩
        exact k ι _ (by rw [List.length_set]; exact Ext.put R hi) (R.put hi fun x => ⟨_, upd_same, (rr.set m r3).mono (x.grow R)⟩)
      · cases e
    · cases e
  · cases e
end
end Rf

set_option maxHeartbeats 1000000
namespace Rf
open PySem PySem.Spec PyProof.Rows L2
section
variable {C : Ct} {a : Expr} {ma : EM} {pos : Pos}
theorem me_int {i : Int} {k : Nat} : ME C (.Constant (.int i) k pos) (eC (.int i)) := me_C (v := .int i) pe_int fun _ _ _ => RD.int.mpr rfl
theorem me_bl {b : Bool} {k : Nat} : ME C (.Constant (.bool b) k pos) (eC (.bl b)) := me_C (v := .bl b) pe_bl fun _ _ _ => RD.bl.mpr rfl
theorem me_non {k : Nat} : ME C (.Constant .none k pos) (eC .non) := me_C (v := .non) pe_non fun _ _ _ => RD.non.mpr rfl
theorem me_str {x : Str} {k : Nat} : ME C (.Constant (.str x) k pos) (eC (.str x)) := me_C (v := .str x) pe_str fun _ _ _ => RD.str.mpr rfl
theorem me_ty {x : Str} {n : String} (hm : C.X.mg x = none) (hv : bootBuiltins x = some (.type n) := by decide +kernel) (hg : Gl C.X x := by rfl) (hn : x ≠ "__name__" := by decide) (hd : (x == ("__debug__" : Str)) = false := by decide) : ME C (.Name x pos) (eC (.ty n)) :=
  me_C (v := .ty n) (pe_bltn hg hm hv rfl hn hd) fun _ _ _ => RD.ty.mpr rfl
theorem mo_none : MO C none none := rfl
theorem mo_some (h : ME C a ma) : MO C (some a) (some ma) := ⟨a, rfl, h⟩
end
theorem units65 {A : Around} {k : Nat} (hr : Room k A) : A.units + 65 < cLine := by have := hr.un; omega
/-- a def of the module, as it stands -/
structure DA (K : PySem.W.Frag) (mg : Str → Option Value) (x : Str) (st : Stmt) (ps : List Str) (f : Addr) (fd : FuncData) : Prop where
  fn : Fun K x x st f fd
  mgf : mg x = some (.ref f)
  bd : Binds K fd ps []
end Rf
namespace Rf
open PySem PySem.Spec PyProof.Rows L2
/-- what the law's own def is held to: its plain function ends well, and so the call -/
def spLaw (K : PySem.W.Frag) (F : List D → AH → ER) : Sp := fun vs H Q _ => vs.length = 1 ∧ ∃ ι h ds, Rel K ι h H ∧ RDs K ι h.length H ds vs ∧ ∃ d h', F ds h = .ok d h' ∧ ∀ ι' H' v, Ext ι h.length H ι' h'.length H' → Rel K ι' h' H' → RD K ι' h'.length H' d v → Q v H'
theorem spLaw.of {K : PySem.W.Frag} {mg : Str → Option Value} {F : List D → AH → ER} : ∀ vs H Q E, spLaw K F vs H Q E → spF K mg 1 F vs H Q E := by
  rintro vs H Q E ⟨hl, ι, h, ds, R, r, d, h', e, q⟩
  refine ⟨hl, ι, h, ds, R, r, ?_⟩
  rw [e]
  exact q
theorem RDs.rol_ints {K : PySem.W.Frag} {ι : Nat → Addr} {n : Nat} {H : Hp} {a : Addr} {ns : List Int} (q : RoL K H a (ns.map V.int)) : RD K ι n H (.rol (ns.map D.int)) (.ref a) := RD.rol.mpr ⟨a, _, rfl, q, RDs.of_ints⟩
theorem spLaw.start {K : PySem.W.Frag} {F : List D → AH → ER} {H : Hp} {a : Addr} {ns : List Int} (O : Only H) (S : SqL K H a (ns.map V.int)) (hF : ∃ h', F [.rol (ns.map D.int)] [] = .ok (.bl true) h') : spLaw K F [.ref a] H (fun v _ => v = .bl true) fun _ _ _ => False := by
  obtain ⟨h', e⟩ := hF
  have q : RoL K H a (ns.map V.int) := by
    rcases S with (s | s) | s
    · rcases O a with z | ⟨o, xs, z⟩ <;> (rw [s] at z; cases z)
    · exact .inl s
    · exact .inr s
  exact ⟨rfl, fun _ => 0, [], [.rol (ns.map D.int)], ⟨fun i j hi => absurd hi (Nat.not_lt_zero i), fun i o e => by simp at e⟩, RDs.cons' (RDs.rol_ints q) RDs.nil', .bl true, h', e, fun ι' H' v _ _ r => RD.bl.mp r⟩
theorem cx_false {P : Program} {w : World} {H : Hp} {s s' : Shared} {e : Value} (h : L2N.CX P w [] H s (fun _ _ _ => False) e s') : False := by
  obtain ⟨_, _, _, _, _, _, _, _, _, _, _, _, z⟩ := h
  exact z
end Rf

set_option maxHeartbeats 1000000
/-! Calls with keywords, every parameter given. -/
namespace Rf
open PySem PySem.Spec PyProof.Rows L2
def MK (C : Ct) (kws : List Keyword) (m : LM) : Prop := ∃ t, PK C.X kws t ∧ SimL C t m
section
variable {C : Ct} {e : Expr} {m : EM} {kws : List Keyword} {nm : Option Str} {kpos : Pos} {mr : LM}
theorem mk_nil : MK C [] lNil := ⟨_, pk_nil, ⟨fun env h σ H ι Q R V p => p ι H [] .refl R RDs.nil'⟩⟩
theorem mk_cons (ha : ME C e m) (hr : MK C kws mr) : MK C (⟨nm, e, kpos⟩ :: kws) (lCons m mr) := by
  obtain ⟨ta, pa, sa⟩ := ha
  obtain ⟨tr, pr, sr⟩ := hr
  refine ⟨_, pk_cons pa pr, ⟨fun env h σ H ι Q R V p => ?_⟩⟩
  refine sa.run env h σ H ι _ R V ?_
  unfold lCons at p
  cases hm : m env h with
  | ok d h1 =>
    rw [hm] at p
    dsimp only at p
    refine fun ι' H' v x R' r => ?_
    refine sr.run env h1 σ H' ι' _ R' (V.ext R x) ?_
    cases hm2 : mr env h1 with
    | ok ds h2 =>
      rw [hm2] at p
      exact fun ι2 H2 vs x2 R2 r2 => p ι2 H2 _ (x.trans x2) R2 (RDs.cons' (r.mono (x2.grow R')) r2)
    | exc c fs h2 =>
      rw [hm2] at p
      exact fun ι2 H2 Cl dd x2 => p ι2 H2 Cl dd (x.trans x2)
    | stuck => rw [hm2] at p; exact p
  | exc c fs h1 => rw [hm] at p; exact p
  | stuck => rw [hm] at p; exact p
end
/-- positional values, then those of the keywords in the parameters' order -/
def permK {α : Type} (idx : List Nat) (us ws : List α) : List α := us ++ idx.filterMap fun i => ws[i]?
theorem permK_RDs {K : PySem.W.Frag} {ι : Nat → Addr} {n : Nat} {H : Hp} {ds es : List D} {vs zs : List V} (r : RDs K ι n H ds vs) (q : RDs K ι n H es zs) : ∀ idx : List Nat, RDs K ι n H (permK idx ds es) (permK idx vs zs) := by
  have key : ∀ idx : List Nat, RDs K ι n H (idx.filterMap fun i => es[i]?) (idx.filterMap fun i => zs[i]?) := by
    intro idx
    induction idx with
    | nil => exact RDs.nil'
    | cons i idx ih =>
      rw [List.filterMap_cons, List.filterMap_cons]
      cases hi : es[i]? with
      | none =>
        have : zs[i]? = none := by
          rw [List.getElem?_eq_none_iff] at hi ⊢
          rw [← q.length]; exact hi
        rw [this]; exact ih
      | some d =>
        obtain ⟨v, hv, rv⟩ := RDs.get q hi
        rw [hv]
        exact RDs.cons' rv ih
  exact fun idx => RDs.append r (key idx)
theorem permK_Vals {vs zs : List V} {us ws : List Value} (r : Vals vs us) (q : Vals zs ws) : ∀ idx : List Nat, Vals (permK idx vs zs) (permK idx us ws) := by
  have at_ : ∀ {zs : List V} {ws : List Value} (i : Nat), Vals zs ws → (zs[i]? = none ∧ ws[i]? = none) ∨ ∃ a b, zs[i]? = some a ∧ ws[i]? = some b ∧ RelV a b := by
    intro zs ws i q
    induction q generalizing i with
    | nil => exact .inl ⟨rfl, rfl⟩
    | cons h t ih =>
      cases i with
      | zero => exact .inr ⟨_, _, rfl, rfl, h⟩
      | succ i => exact ih i
  have key : ∀ idx : List Nat, Vals (idx.filterMap fun i => zs[i]?) (idx.filterMap fun i => ws[i]?) := by
    intro idx
    induction idx with
    | nil => exact .nil
    | cons i idx ih =>
      rw [List.filterMap_cons, List.filterMap_cons]
      rcases at_ i q with ⟨h1, h2⟩ | ⟨a, b, h1, h2, h3⟩
      · rw [h1, h2]; exact ih
      · rw [h1, h2]; exact .cons h3 ih
  intro idx
  unfold permK
  induction r with
  | nil => exact key idx
  | cons h t ih => exact .cons h ih
theorem runK {X : Cx} {CX : CXT} {k n : Nat} {f : Addr} {fd : FuncData} {ps ks : List Str} {sp : Sp} {D : XK} {g : List Value → List Value → List Value} {gV : List V → List V → List V} {pins : List (Addr × Obj)} {σ : L2.St} {H : Hp} {s : Shared} {Q : VK} {us ws : List Value} {vs zs : List V}
    (F0 : FnOk X.prog X.w X.K X.mg X.base CX k f fd ps sp) (room : Room k X.A) (kb : KBn X.K fd ps n ks g gV) (ps0 : PassesAt CX X σ D) (J : Inv X pins σ H s) (r1 : Vals vs us) (r2 : Vals zs ws) (l1 : vs.length = n) (l2 : zs.length = ks.length) (q : sp (gV vs zs) H Q D) :
    wpAny (model X.prog X.w) X.A (call (.ref f) us (ks.zip ws)) (EP X pins σ Q) X.xe s := by
  have b0 := kb.to s us ws J.kIn (r1.length.symm.trans l1) (r2.length.symm.trans l2)
  have e0 := F0.run X.A X.stack s H ⟨us, ks.zip ws⟩ (g us ws) (gV vs zs) Q D room J.env0 b0 (kb.rel r1 r2) q
  refine wpAny_call (codeAny_mono e0 fun r s' hq => ?_)
  match r, hq with
  | .error e, hq => exact ps0 pins H s e s' J hq
  | .ok (.ret u), hq => exact J.after hq
  | .ok .next, hq => exact hq.elim
  | .ok .brk, hq => exact hq.elim
  | .ok .cont, hq => exact hq.elim
/-- a call with keywords: the positional values in their order, the keywords' values as written, then put in order -/
def eCallK (n m : Nat) (idx : List Nat) (F : List D → AH → ER) (ml mk : LM) : EM := fun env h => (ml env h).then fun ds h1 => (mk env h1).then fun es h2 => if ds.length = n ∧ es.length = m then F (permK idx ds es) h2 else .stuck
section
variable {C : Ct} {k pl n km : Nat} {f : Addr} {fd : FuncData} {ps ks : List Str} {F : List D → AH → ER} {x : Str} {p pos : Pos} {e : Expr} {es : List Expr} {kws : List Keyword} {ml mk : LM} {idx : List Nat}
theorem me_callK (F0 : FnOk C.X.prog C.X.w C.X.K C.X.mg C.X.base (L2N.CX C.X.prog C.X.w) k f fd ps (spF C.X.K C.X.mg pl F)) (hr : Room k C.X.A) (hm : C.X.mg x = some (.ref f)) (hk : PySem.W.keepIn C.X.K (.ref f) = true) (hb : KBn C.X.K fd ps n ks (permK idx) (permK idx)) (tk : L2N.Takes C.X C.W)
    (ha : MA C (e :: es) ml) (hw : MK C kws mk) (hpl2 : ∀ us ws : List D, us.length = n → ws.length = km → (permK idx us ws).length = pl) (hkm : ks.length = km := by rfl)
    (hall : (backToKw pos (keywordEach kws C.X.env)).all (·.1.isSome) = true := by rfl) (hks : (backToKw pos (keywordEach kws C.X.env)).filterMap (·.1) = ks := by rfl) (hg : Gl C.X x := by rfl) (hdb : (x == ("__debug__" : Str)) = false := by decide) (he : starEach (e :: es) C.X.env = (false, eval e C.X.env) :: starEach es C.X.env := by rfl)
    (hpl : ((backTo pos (starEach (e :: es) C.X.env)).any (·.1) || (backToKw pos (keywordEach kws C.X.env)).any (·.1.isNone)) = false := by rfl) :
    ME C (.Call (.Name x p) (e :: es) kws pos) (eCallK n km idx F ml mk) := by
  subst hkm
  obtain ⟨t, pa, s⟩ := ha
  obtain ⟨t2, pk, s2⟩ := hw
  refine ⟨fun σ H Q => tCallN n ks.length (spF C.X.K C.X.mg pl F) (permK idx) (WE C.W σ) t t2 σ H Q, ⟨fun pins s0 σ H Q I h => ?_⟩, ⟨fun env h σ H ι Q R V q => ?_⟩⟩
  · refine wpAny_Call_Name_kw (ld_glob (x := x) I hg hm ?_ hdb)
    refine PySem.W.callWith_KW (h₀ := C.X.base) I.ok.mod.kin hk hall (thn (pa.run pos pins s0 σ H _ I h) fun us s1 h1 => ?_) hpl he
    obtain ⟨vs, H1, I1, r, q⟩ := h1
    refine thn (pk.run pos pins s1 σ H1 _ I1 q) fun ws s2 h2 => ?_
    obtain ⟨zs, H2, I2, rz, l1, l2, q2⟩ := h2
    refine ⟨I2.kIn, ?_⟩
    rw [hks]
    exact runK F0 hr hb (L2N.passAt tk σ) I2 r rz l1 l2 q2
  · refine s.run env h σ H ι _ R V ?_
    unfold eCallK at q
    cases hm : ml env h with
    | ok ds h1 =>
      rw [hm] at q
      refine fun ι' H' vs x R' r => ?_
      refine s2.run env h1 σ H' ι' _ R' (V.ext R x) ?_
      have q1 : PostE C ι h.length H σ ((mk env h1).then fun es h2 => if ds.length = n ∧ es.length = ks.length then F (permK idx ds es) h2 else .stuck) Q := q
      cases hm2 : mk env h1 with
      | ok es h2 =>
        rw [hm2] at q1
        refine fun ι2 H2 zs x2 R2 r2 => ?_
        have q2 : PostE C ι h.length H σ (if ds.length = n ∧ es.length = ks.length then F (permK idx ds es) h2 else .stuck) Q := q1
        by_cases hd : ds.length = n ∧ es.length = ks.length
        · rw [if_pos hd] at q2
          have r3 := permK_RDs (r.mono (x2.grow R')) r2 idx
          refine ⟨by rw [← r.length]; exact hd.1, by rw [← r2.length]; exact hd.2, ?_⟩
          exact spF.of R2 r3 (by rw [← r3.length]; exact hpl2 _ _ hd.1 hd.2) (PostE.shift q2 (x.trans x2))
        · rw [if_neg hd] at q2; exact q2.elim
      | exc c fs h2 =>
        rw [hm2] at q1
        exact fun ι2 H2 Cl dd x2 => q1 ι2 H2 Cl dd (x.trans x2)
      | stuck => rw [hm2] at q1; exact q1
    | exc c fs h1 => rw [hm] at q; exact q
    | stuck => rw [hm] at q; exact q
end
end Rf

/-! enumerate over a tuple -/
namespace Rf
open PySem PySem.Spec PyProof.Rows L2
set_option maxHeartbeats 1000000 in
theorem enumT_new (t : Addr) (its : Array Value) :
    Meets (Builtin.«enumerate.__new__» ⟨[.type "enumerate", .ref t], []⟩) (fun _ R s => s.heap.IsTuple t its ∧
      R (.ok (.ret (.ref (s.heap.push { cls := .type "tuple_iterator", data := .fields #[.ref t, .int 0 0] }).objs.size)))
        { s with heap := (s.heap.push { cls := .type "tuple_iterator", data := .fields #[.ref t, .int 0 0] }).push { cls := .type "enumerate", data := .fields #[.none, .bool false, .ref s.heap.objs.size, rawInt 0, .none, .none] } }) :=
  .of_wp fun prog w A R s hyp => by
    obtain ⟨hp, g, d, tk, os⟩ := s
    obtain ⟨ht, hR⟩ := hyp
    have hT : Heap.IsTuple (Shared.heap ⟨hp, g, d, tk, os⟩) t its := ht
    have hsub := sub_enumerate
    obtain ⟨⟨c0, dc, dt, sl⟩, ho, hc0, n, hd0⟩ := ht
    replace hc0 : c0 = .type "tuple" := hc0
    replace hd0 : dt = .seq its n := hd0
    subst hc0 hd0
    wp_walk using AutoSeq1.wpAny_loadPart' ho
    refine wpAny_stack_any fun st => wpAny_pure ?_
    split
    · rename_i c _ _ _ _ _
      cases (c == Value.type "enumerate")
      · wp_walk using AutoSeq1.wpAny_loadPart' ho, wpAny_pyIter_tuple hT
        exact ⟨_, rfl, hR⟩
      · wp_walk using AutoSeq1.wpAny_loadPart' ho, wpAny_pyIter_tuple hT
        exact ⟨_, rfl, hR⟩
    · wp_walk using AutoSeq1.wpAny_loadPart' ho, wpAny_pyIter_tuple hT
      exact ⟨_, rfl, hR⟩
theorem callEnumT {prog : Program} {w : World} {A : Around} {E : Value → Shared → Prop} {s : Shared} {t : Addr} {its : Array Value} {Q : Value → Shared → Prop} (ht : s.heap.IsTuple t its)
    (k : ∀ h', IsEnum h' (s.heap.objs.size + 1) s.heap.objs.size 0 .none → h'.IsTupleIter s.heap.objs.size t 0 → (∀ b o, s.heap.get? b = some o → h'.get? b = some o) → Q (.ref (s.heap.objs.size + 1)) { s with heap := h' }) :
    wpAny (model prog w) A (call (.type "enumerate") [.ref t]) Q E s := by
  refine callType_new F.called_enumerate (by decide) (F.typeCall_enumerate_1 _) (F.newCall_enumerate_1 _) (fun obj => F.args_object_init_2 obj _) F.entry_enumerate_new (enumT_new t its) ⟨ht, ?_⟩
  generalize hi : (Obj.mk (.type "tuple_iterator") none (.fields #[.ref t, .int 0 0]) #[]) = io
  have hz : (s.heap.push io).objs.size = s.heap.objs.size + 1 := Heap.size_push ..
  show _ ∧ _
  rw [hz]
  have he := Heap.get?_push_size (s.heap.push io) (o := { cls := .type "enumerate", data := .fields #[.none, .bool false, .ref s.heap.objs.size, rawInt 0, .none, .none] }) rfl
  rw [hz] at he
  refine ⟨⟨_, he, rfl⟩, k _ he ⟨io, Heap.get?_push_of_some _ (Heap.get?_push_size _ (by rw [← hi]; rfl)), by rw [← hi], by rw [← hi]; rfl⟩ ?_⟩
  exact fun b o x => Heap.get?_push_of_some _ (Heap.get?_push_of_some _ x)
/-- the tuple at a as it stands, each item with its number in a new pair -/
def IeT (K : PySem.W.Frag) (a : Addr) : It :=
  ⟨fun i H => ∃ (xs : List V) (x : V), SqT K H a xs ∧ xs[i]? = some x, fun i H v H' => ∃ T x, v = .ref T ∧ H T = none ∧ H' = upd H T (.tup [.int (i : Nat), x]) ∧ ∀ xs, SqT K H a xs → xs[i]? = some x, fun i H => ∃ xs : List V, SqT K H a xs ∧ xs.length ≤ i⟩
theorem tup_ne_iter {h : Heap} {a it : Addr} {i : Nat} {its : Array Value} (p : h.IsTuple a its) (q : h.IsTupleIter it a i) : a ≠ it := by
  obtain ⟨o, e1, c1, _⟩ := p
  obtain ⟨o', e2, c2, _⟩ := q
  rintro rfl
  rw [e1] at e2
  cases e2
  exact absurd (Value.type.inj (c1.symm.trans c2)) (by decide)
theorem tup_ne_enum {h : Heap} {a e it : Addr} {i : Int} {old : Value} {its : Array Value} (p : h.IsTuple a its) (q : IsEnum h e it i old) : a ≠ e := by
  obtain ⟨o, e1, c1, _⟩ := p
  rintro rfl
  rw [show h.get? a = _ from q] at e1
  cases e1
  exact absurd (Value.type.inj c1) (by decide)
theorem turn_enumT {P : Program} {w : World} {K : PySem.W.Frag} {elts : List Expr} {kk : Nat} {tpos : Pos} (a e it : Addr) :
    Turn P w K (.Tuple elts kk tpos) (IeT K a) [e, it] e (fun i h => (∃ old, IsEnum h e it ((i : Nat) : Int) old) ∧ h.IsTupleIter it a i ∧ e ≠ it) where
  mem := by simp
  obj := fun i h st b hb => by
    obtain ⟨⟨old, he⟩, ⟨o, ho, _, hd⟩, _⟩ := st
    rcases List.mem_cons.mp hb with z | z
    · subst z; exact ⟨_, he, fun v q => nomatch q⟩
    · rw [List.mem_singleton] at z
      subst z; exact ⟨o, ho, fun v q => by rw [hd] at q; cases q⟩
  keep := fun i h h' st k => by
    obtain ⟨⟨old, he⟩, hi, hne⟩ := st
    exact ⟨⟨old, k e (by simp) _ he⟩, hi.at fun o q => k it (by simp) o q, hne⟩
  item := by
    intro X hP hw hK hc i pins s σ H E I hf st hg
    subst hP hw hK
    obtain ⟨⟨old, he⟩, hit, hne⟩ := st
    obtain ⟨xs, x, hq, hx⟩ := hg
    obtain ⟨its, rv, p, hz⟩ := I.tuple hq
    obtain ⟨u, hu, ru⟩ := rv.get hx
    have p' : s.heap.IsTuple a its.toArray := p
    have hai := tup_ne_iter p' hit
    have hae := tup_ne_enum p' he
    have hel := Heap.lt_size he
    have hil : it < s.heap.objs.size := by
      obtain ⟨_, q, _⟩ := hit
      exact Heap.lt_size q
    have hlt : i < its.toArray.size := by
      have := (List.getElem?_eq_some_iff.mp hu).1
      simpa using this
    refine wpAny_pyNext_enum_itemC (Draws.tuple (A := X.A.in1) (show X.A.in1.handled = none from I.ok.hd hc) it a hai its.toArray) he ⟨hit, p'⟩ hlt hne (by simp; exact ⟨hne, Ne.symm hae⟩) fun y h' tk hy ho hst hT hsz hk => ?_
    obtain rfl : y = u := by
      have : its[i]? = some y := by simpa using hy
      rw [hu] at this; cases this; rfl
    refine ⟨_, rfl, wpAny_letOwnedTupleGo_enum (s := { s with heap := h', toks := tk + 1 }) ho fun h2 he2 sb => ?_⟩
    have hT2 := (sb.2 _ (Nat.ne_of_gt hel)).trans hT
    obtain ⟨T, hTT⟩ : ∃ T, T = s.heap.objs.size := ⟨_, rfl⟩
    rw [← hTT] at hT2 ⊢
    have new : ObjOk X.prog X.w (upd H T (.tup [.int (i : Nat), x])) h2 T (.tup [.int (i : Nat), x]) := by
      refine ⟨by show 2 ≤ sizeLine; decide, [.int i tk, y], .cons ⟨_, rfl⟩ (.cons ru .nil), ⟨_, hT2, rfl, _, rfl⟩⟩
    have kp : ∀ b ob, b ∉ [e, it] → s.heap.get? b = some ob → h2.get? b = some ob := fun b ob hb q =>
      (sb.2 b (fun z => hb (by simp [z]))).trans (hk b ob (fun z => hb (by simp [z])) (fun z => hb (by simp [z])) q)
    have I1 := I.turnedNew (t' := tk + 1) kp hf (by rw [hTT]; exact Nat.le_refl _) new
    have fT : H T = none := I.hok.fresh (by rw [hTT]; exact Nat.le_refl _)
    refine ⟨.ref T, _, I1, rfl, ⟨T, x, rfl, fT, rfl, fun ys hy => by rw [I.tuple_inj hy hq]; exact hx⟩, ⟨⟨y, ?_⟩, ?_, hne⟩, fun b hb => ?_⟩
    · rw [show ((i + 1 : Nat) : Int) = (i : Int) + 1 by omega]; exact he2
    · exact hst.1.at fun o q => (sb.2 it (Ne.symm hne)).trans q
    · have hb' : b < T := by
        rw [hTT]
        rcases List.mem_cons.mp hb with z | z
        · rw [z]; exact hel
        · rw [List.mem_singleton.mp z]; exact hil
      rw [upd_ne (Nat.ne_of_lt hb')]
      exact (hf b hb).1
  done := by
    intro X hP hw hK hc i pins s σ H E I hf st hg
    subst hP hw hK
    obtain ⟨⟨old, he⟩, hit, hne⟩ := st
    obtain ⟨xs, hq, hx⟩ := hg
    obtain ⟨its, rv, p, hz⟩ := I.tuple hq
    have p' : s.heap.IsTuple a its.toArray := p
    obtain ⟨f0, f1, f2, f3, f4, f5⟩ := hf it (by simp)
    have hl := rv.length
    have hh : X.A.in1.handled = none := I.ok.hd hc
    have D : Draws X.prog X.w X.A.in1 it [it, a] i (fun _ _ => True) (fun j h => j = i ∧ h.IsTupleIter it a i ∧ h.IsTuple a its.toArray) := by
      refine ⟨fun j h z => ?_, fun j h h' z k => ?_, fun j s Q E hj z => absurd z.1 (Nat.ne_of_lt hj), fun s Q E z k => ?_⟩
      · obtain ⟨_, ⟨o, ho, _⟩, _⟩ := z
        exact ⟨o, ho⟩
      · exact ⟨z.1, z.2.1.at fun o q => k it (by simp) o q, z.2.2.at fun o q => k a (by simp) o q⟩
      · exact wpAny_nextOf_tuple_end hh z.2.1 z.2.2 (by simp; omega) k
    exact wpAny_pyNext_enum_endD D he ⟨rfl, hit, p'⟩ fun h' eb => ⟨rfl, I.turned (t' := s.toks) (fun b o hb q => eb b o hb q) f0 f1 f3 f4 f5⟩
  self := fun A i s Q E st h => by
    obtain ⟨⟨old, he⟩, _⟩ := st
    exact wpAny_pyIter_enum he h
def iEnumT (K : PySem.W.Frag) (ta : TA) : TI := fun σ H R => ta σ H fun vs H1 => ∃ a xs, vs = [.ref a] ∧ SqT K H1 a xs ∧ R (IeT K a) H1
theorem pi_enumT {X : Cx} {e : Expr} {ta : TA} {p pos tpos : Pos} {elts : List Expr} {kk : Nat} (hg : Gl X "enumerate") (hm : X.mg "enumerate" = none) (ha : PA X [e] ta) (hs : starEach [e] X.env = [(false, eval e X.env)] := by rfl) :
    PI X (.Tuple elts kk tpos) (.Call (.Name "enumerate" p) [e] [] pos) (iEnumT X.K ta) := by
  refine ⟨fun pins s σ H R I h => Call_ (ld_blt I hg hm boot_enumerate (PyProof.Rows.callWith_type1 (thn (ha.run pos pins s σ H _ I h) fun us s1 hyp => ?_) hs rfl))⟩
  obtain ⟨vs, H1, I1, r1, a, xs, ex, hq, q⟩ := hyp
  subst ex
  cases r1 with
  | cons r rr =>
    cases rr
    cases r
    obtain ⟨its, rv, p', hz⟩ := I1.tuple hq
    refine callEnumT p' fun h' he hit hk => wpAny_pyIter_enum he ?_
    obtain ⟨N, hN⟩ : ∃ N, N = s1.heap.objs.size := ⟨_, rfl⟩
    rw [← hN] at he hit ⊢
    have I2 : Inv X pins σ H1 { s1 with heap := h' } := I1.kept (t' := s1.toks) hk
    refine ⟨N + 1, [N + 1, N], _, _, H1, rfl, I2, turn_enumT a (N + 1) N, ⟨⟨.none, he⟩, hit, Nat.succ_ne_self _⟩, fun b hb => ?_, q⟩
    have hle : s1.heap.objs.size ≤ b := by
      rw [← hN]
      rcases List.mem_cons.mp hb with z | z
      · rw [z]; exact Nat.le_succ _
      · rw [List.mem_singleton] at z
        rw [z]; exact Nat.le_refl _
    exact I1.fpOk hle (I1.hok.fresh hle)
/-- the items with their numbers -/
def numD (ds : List D) : List D := ds.mapIdx fun i d => .tup [.int (i : Nat), d]
theorem numD_at {ds : List D} {i : Nat} : (numD ds)[i]? = (ds[i]?).map fun d => .tup [.int (i : Nat), d] := by unfold numD; rw [List.getElem?_mapIdx]
def iEnum1 (m : EM) : IM := fun e h => match m e h with
  | .ok (.tup ds) h1 => .ok (stat (numD ds)) h1
  | .ok _ _ => .stuck
  | .exc c fs h1 => .exc c fs h1
  | .stuck => .stuck
section
variable {C : Ct} {a : Expr} {m : EM} {p pos tpos : Pos} {elts : List Expr} {kk : Nat}
theorem itr_enumT {K : PySem.W.Frag} {ι : Nat → Addr} {h : AH} {H : Hp} {ds : List D} {vs : List V} {a : Addr} (R0 : Rel K ι h H) (q : SqT K H a vs) (r : RDs K ι h.length H ds vs) : ItR K (IeT K a) (stat (numD ds)) ι h.length H := by
  refine itr_stat fun i ι' h' H' x R => ⟨fun e => ⟨vs, R0.sqT x q, ?_⟩, fun d e => ?_⟩
  · rw [numD_at] at e
    rw [← r.length]
    refine List.getElem?_eq_none_iff.mp ?_
    cases hd : ds[i]? with
    | none => rfl
    | some d => rw [hd] at e; cases e
  · rw [numD_at] at e
    cases hd : ds[i]? with
    | none => rw [hd] at e; cases e
    | some d0 =>
      rw [hd] at e
      cases e
      obtain ⟨v, ev, rv⟩ := r.get hd
      refine ⟨⟨vs, v, R0.sqT x q, ev⟩, fun y H2 hy => ?_⟩
      obtain ⟨T, x0, rfl, hT, rfl, hx⟩ := hy
      have e2 := hx vs (R0.sqT x q)
      rw [ev] at e2
      cases e2
      have xx : Ext ι' h'.length H' ι' h'.length (upd H' T (.tup [.int (i : Nat), v])) := Ext.tup hT
      refine ⟨ι', xx, R.tup hT xx, RD.tup.mpr ⟨T, _, rfl, upd_same, ?_⟩⟩
      have rv2 : RD K ι' h'.length H' d0 v := rv.mono (x.grow R0)
      exact RDs.cons' (RD.int.mpr rfl) (RDs.cons' (rv2.mono (xx.grow R)) RDs.nil')
theorem mi_enum1 (hm : C.X.mg "enumerate" = none) (ha : ME C a m) (hg : Gl C.X "enumerate" := by rfl) (hs : starEach [a] C.X.env = [(false, eval a C.X.env)] := by rfl) (na : starEach [a] C.X.env = (false, eval a C.X.env) :: starEach [] C.X.env := by rfl) :
    MI C (.Tuple elts kk tpos) (.Call (.Name "enumerate" p) [a] [] pos) (iEnum1 m) := by
  obtain ⟨t, pa, sa⟩ := ha
  refine ⟨_, pi_enumT hg hm (pa_cons pa pa_nil na) hs, ⟨fun env h σ H ι Q R V p => ?_⟩⟩
  refine sa.run env h σ H ι _ R V ?_
  unfold iEnum1 at p
  cases hm : m env h with
  | exc c fs h1 => rw [hm] at p; exact p
  | stuck => rw [hm] at p; exact p
  | ok d h1 =>
    rw [hm] at p
    cases d with
    | tup ds =>
      refine fun ι' H' v x R' r => ?_
      obtain ⟨a, vs, rfl, s, rr⟩ := RD.tup.mp r
      exact ⟨a, vs, rfl, s, p.here x R' (itr_enumT R' s rr)⟩
    | _ => exact (show False from p).elim
end
end Rf

set_option maxHeartbeats 1000000
/-! sorted of ints -/
namespace Rf
open PySem PySem.Spec PyProof.Rows L2
def intSort (ns : List Int) : List Int := ns.mergeSort fun a b => decide (a ≤ b)
theorem intSort_perm (ns : List Int) : (intSort ns).Perm ns := List.mergeSort_perm _ _
theorem intSort_up (ns : List Int) : (intSort ns).Pairwise (· ≤ ·) := by
  have := List.pairwise_mergeSort (le := fun a b : Int => decide (a ≤ b)) (fun a b c h1 h2 => by simp at *; omega) (fun a b => by simp; omega) ns
  exact this.imp fun h => by simpa using h
theorem intSort_eq {ns ys : List Int} (p : ys.Perm ns) (u : ys.Pairwise (· ≤ ·)) : ys = intSort ns :=
  List.Perm.eq_of_pairwise (le := (· ≤ ·)) (fun a b _ _ h1 h2 => Int.le_antisymm h1 h2) u (intSort_up ns) (p.trans (intSort_perm ns).symm)
/-- the keys of a dict, all ints -/
def keysI : List (Key × D) → Option (List Int)
  | [] => some []
  | (.inl i, _) :: r => (keysI r).map (i :: ·)
  | _ => none
theorem keysI_eq : ∀ {kvs : List (Key × D)} {ns : List Int}, keysI kvs = some ns → kvs.map (·.1) = ns.map Sum.inl
  | [], ns, e => by cases e; rfl
  | (.inl i, d) :: r, ns, e => by
    unfold keysI at e
    cases q : keysI r with
    | none => rw [q] at e; cases e
    | some ms => rw [q] at e; cases e; rw [List.map_cons, List.map_cons, keysI_eq q]
  | (.inr s, d) :: r, ns, e => by cases e
open Classical in
noncomputable def cSorted (ds : List D) (h : AH) : ER := match ds with
  | [.ref i] => (match h[i]? with
    | some (.lst es) => (match intsOf es with
      | some ns => .ok (.ref h.length) (h ++ [.lst ((intSort ns).map D.int)])
      | none => .stuck)
    | some (.dK kvs) => (match keysI kvs with
      | some ns => if ns.length < 64 then .ok (.ref h.length) (h ++ [.lst ((intSort ns).map D.int)]) else .stuck
      | none => .stuck)
    | _ => .stuck)
  | _ => .stuck
theorem RDs.mk_ints {K : PySem.W.Frag} {ι : Nat → Addr} {n : Nat} {H : Hp} : ∀ ns : List Int, RDs K ι n H (ns.map D.int) (ns.map V.int)
  | [] => RDs.nil'
  | n :: ns => RDs.cons' (RD.int.mpr rfl) (RDs.mk_ints ns)
section
variable {C : Ct}
theorem cs_sorted : CallS C (fun vs H Q => rSortedI C.X.K vs H Q ∨ ∃ (a : Addr) (kvs : List (Key × V)) (ks : List Int), vs = [.ref a] ∧ Rd H a (.dK kvs) ∧ kvs.map (·.1) = ks.map Sum.inl ∧ ks.length < 64 ∧
    ∀ (ys : List Int) (p : Addr), ys.Perm ks → ys.Pairwise (· ≤ ·) → H p = none → Q (.ref p) (upd H p (.lst (ys.map V.int)))) cSorted := by
  intro ι h H σ xs ds Q R r p
  unfold cSorted at p
  split at p
  · rename_i i
    obtain ⟨v, rfl, q1⟩ := r.one
    split at p
    · rename_i es e
      split at p
      · rename_i ns e2
        obtain ⟨vs, rfl, e1, rr⟩ := q1.list R e
        have hs : SqL C.X.K H (ι i) vs := SqL.of e1
        rw [intsOf_eq e2] at rr
        rw [rr.ints] at hs
        refine .inl ⟨_, ns, rfl, hs, fun ns' p' pm up hp => ?_⟩
        rw [intSort_eq pm up]
        exact PostE.lst p R (RDs.mk_ints _) hp
      · exact p.elim
    · rename_i kvs e
      split at p
      · rename_i ns e2
        split at p
        · rename_i h64
          have hr := R.ob i _ e
          obtain ⟨ws, hw, hk, rr⟩ := hr
          have ev := RD.ref.mp q1
          refine .inr ⟨ι i, ws, ns, by rw [ev.2], .inl hw, by rw [← hk]; exact keysI_eq e2, h64, fun ys p' pm up hp => ?_⟩
          rw [intSort_eq pm up]
          exact PostE.lst p R (RDs.mk_ints _) hp
        · exact p.elim
      · exact p.elim
    · exact p.elim
  · exact p.elim
theorem cr_sorted2 (hcalm : C.X.calm = true) : CallR C.X (.builtin "sorted") (fun vs H Q => rSortedI C.X.K vs H Q ∨ ∃ (a : Addr) (kvs : List (Key × V)) (ks : List Int), vs = [.ref a] ∧ Rd H a (.dK kvs) ∧ kvs.map (·.1) = ks.map Sum.inl ∧ ks.length < 64 ∧
    ∀ (ys : List Int) (p : Addr), ys.Perm ks → ys.Pairwise (· ≤ ·) → H p = none → Q (.ref p) (upd H p (.lst (ys.map V.int)))) := CallR.or cr_sortedI (call_sortedDI hcalm)
end
end Rf

set_option maxHeartbeats 1000000
/-! dicts whose keys are ints and texts -/
namespace Rf
open PySem PySem.Spec PyProof.Rows L2
def keyD : D → Option Key
  | .int i => some (.inl i)
  | .str s => some (.inr s)
  | _ => none
def valD (kvs : List (Key × D)) (k : Key) : Option D := (kvs.find? fun kv => decide (kv.1 = k)).map (·.2)
def setD (kvs : List (Key × D)) (k : Key) (v : D) : List (Key × D) :=
  if (kvs.any fun kv => decide (kv.1 = k)) = true then kvs.map (fun kv => if kv.1 = k then (kv.1, v) else kv) else kvs ++ [(k, v)]
section
variable {K : PySem.W.Frag} {ι : Nat → Addr} {n : Nat} {H : Hp}
theorem keyD_V {d : D} {k : Key} {v : V} (r : RD K ι n H d v) (e : keyD d = some k) : v = kV k := by
  cases d with
  | int i => cases e; exact RD.int.mp r
  | str s => cases e; exact RD.str.mp r
  | _ => cases e
theorem valD_V : ∀ {kvs : List (Key × D)} {ws : List (Key × V)} (k : Key), kvs.map (·.1) = ws.map (·.1) → RDs K ι n H (kvs.map (·.2)) (ws.map (·.2)) →
    (valD kvs k = none ∧ valV ws k = none) ∨ ∃ d v, valD kvs k = some d ∧ valV ws k = some v ∧ RD K ι n H d v
  | [], [], k, _, _ => .inl ⟨rfl, rfl⟩
  | [], w :: ws, k, e, _ => by cases e
  | kv :: kvs, [], k, e, _ => by cases e
  | kv :: kvs, w :: ws, k, e, r => by
    obtain ⟨v, vs, e1, r1, r2⟩ := RDs.cons.mp r
    rw [List.map_cons] at e1
    injection e1 with e2 e3
    rw [List.map_cons, List.map_cons] at e
    injection e with e4 e5
    rw [← e3] at r2
    have ih := valD_V (kvs := kvs) (ws := ws) k e5 r2
    unfold valD valV at *
    by_cases h : kv.1 = k
    · have h2 : w.1 = k := by rw [← e4]; exact h
      rw [List.find?_cons_of_pos (by simpa using h), List.find?_cons_of_pos (by simpa using h2)]
      exact .inr ⟨kv.2, w.2, rfl, rfl, by rw [e2]; exact r1⟩
    · have h2 : ¬ w.1 = k := by rw [← e4]; exact h
      rw [List.find?_cons_of_neg (by simpa using h), List.find?_cons_of_neg (by simpa using h2)]
      exact ih
theorem any_keys {α β : Type} (k : Key) : ∀ {kvs : List (Key × α)} {ws : List (Key × β)}, kvs.map (·.1) = ws.map (·.1) → (kvs.any fun kv => decide (kv.1 = k)) = ws.any fun kv => decide (kv.1 = k)
  | [], [], _ => rfl
  | [], w :: ws, e => by cases e
  | kv :: kvs, [], e => by cases e
  | kv :: kvs, w :: ws, e => by
    rw [List.map_cons, List.map_cons] at e
    injection e with e4 e5
    rw [List.any_cons, List.any_cons, any_keys k e5, e4]
theorem setD_V {kvs : List (Key × D)} {ws : List (Key × V)} (k : Key) {d : D} {v : V} (e : kvs.map (·.1) = ws.map (·.1)) (r : RDs K ι n H (kvs.map (·.2)) (ws.map (·.2))) (rv : RD K ι n H d v) :
    (setD kvs k d).map (·.1) = (putK ws k v).map (·.1) ∧ RDs K ι n H ((setD kvs k d).map (·.2)) ((putK ws k v).map (·.2)) := by
  unfold setD putK
  rw [any_keys k e]
  by_cases q : (ws.any fun kv => decide (kv.1 = k)) = true
  · rw [if_pos q, if_pos q]
    clear q
    induction kvs generalizing ws with
    | nil =>
      cases ws with
      | nil => exact ⟨rfl, RDs.nil'⟩
      | cons w ws => cases e
    | cons kv kvs ih =>
      cases ws with
      | nil => cases e
      | cons w ws =>
        obtain ⟨v0, vs, e1, r1, r2⟩ := RDs.cons.mp r
        rw [List.map_cons] at e1
        injection e1 with e2 e3
        rw [List.map_cons, List.map_cons] at e
        injection e with e4 e5
        rw [← e3] at r2
        obtain ⟨i1, i2⟩ := ih e5 r2
        by_cases h : kv.1 = k
        · have h2 : w.1 = k := by rw [← e4]; exact h
          simp only [List.map_cons, if_pos h, if_pos h2]
          exact ⟨by rw [e4, i1], RDs.cons' rv i2⟩
        · have h2 : ¬ w.1 = k := by rw [← e4]; exact h
          simp only [List.map_cons, if_neg h, if_neg h2]
          exact ⟨by rw [e4, i1], RDs.cons' (by rw [e2]; exact r1) i2⟩
  · rw [if_neg q, if_neg q]
    rw [List.map_append, List.map_append, List.map_append, List.map_append, e]
    exact ⟨rfl, RDs.append r (RDs.cons' rv RDs.nil')⟩
end
def dictOf (h : AH) : D → Option (List (Key × D))
  | .ref i => match h[i]? with
    | some (.dK kvs) => some kvs
    | _ => none
  | _ => none
theorem dictOf_rel {K : PySem.W.Frag} {ι : Nat → Addr} {h : AH} {H : Hp} {d : D} {v : V} {kvs : List (Key × D)} (R : Rel K ι h H) (r : RD K ι h.length H d v) (e : dictOf h d = some kvs) :
    ∃ i ws, d = .ref i ∧ i < h.length ∧ v = .ref (ι i) ∧ H (ι i) = some (.dK ws) ∧ kvs.map (·.1) = ws.map (·.1) ∧ RDs K ι h.length H (kvs.map (·.2)) (ws.map (·.2)) := by
  unfold dictOf at e
  split at e
  · rename_i i
    split at e
    · rename_i kvs' e2
      cases e
      obtain ⟨ws, hw, hk, rr⟩ := R.ob i _ e2
      have ev := RD.ref.mp r
      exact ⟨i, ws, rfl, ev.1, ev.2, hw, hk, rr⟩
    · cases e
  · cases e
def oDGet (a b : D) (h : AH) : ER := match dictOf h a, keyD b with
  | some kvs, some k => (match valD kvs k with
    | some d => .ok d h
    | none => .stuck)
  | _, _ => .stuck
def oDIn (b a : D) (h : AH) : ER := match dictOf h a, keyD b with
  | some kvs, some k => .ok (.bl (valD kvs k).isSome) h
  | _, _ => .stuck
def oDNotIn (b a : D) (h : AH) : ER := match dictOf h a, keyD b with
  | some kvs, some k => .ok (.bl (!(valD kvs k).isSome)) h
  | _, _ => .stuck
def rDGet : R2 := fun x y H Q => ∃ a v, x = .ref a ∧ DGet H a y (some v) ∧ Q v H
def rDIn : R2 := fun y x H Q => ∃ a o, x = .ref a ∧ DGet H a y o ∧ Q (.bl o.isSome) H
def rDNotIn : R2 := fun y x H Q => ∃ a o, x = .ref a ∧ DGet H a y o ∧ Q (.bl (!o.isSome)) H
open Classical in
noncomputable def putD (o i v : D) (h : AH) : Option AH := match o, dictOf h o, keyD i with
  | .ref r, some kvs, some k => if kvs.length < sizeLine then some (h.set r (.dK (setD kvs k v))) else none
  | _, _, _ => none
section
variable {C : Ct} {a b : Expr} {ma mb : EM} {pos : Pos}
theorem os_dget : OpS C rDGet oDGet := by
  intro ι h H σ x y d1 d2 Q R r1 r2 p
  unfold oDGet at p
  split at p
  · rename_i kvs k e1 e2
    obtain ⟨i, ws, rfl, hi, rfl, hw, hk, rr⟩ := dictOf_rel R r1 e1
    rcases valD_V k hk rr with ⟨q, _⟩ | ⟨d, v, q1, q2, q3⟩
    · rw [q] at p; exact p.elim
    · rw [q1] at p
      refine ⟨ι i, v, rfl, ?_, p.here R q3⟩
      rw [keyD_V r2 e2, ← q2]
      exact DGet.k hw
  · exact p.elim
theorem os_din : OpS C rDIn oDIn := by
  intro ι h H σ x y d1 d2 Q R r1 r2 p
  unfold oDIn at p
  split at p
  · rename_i kvs k e1 e2
    obtain ⟨i, ws, rfl, hi, rfl, hw, hk, rr⟩ := dictOf_rel R r2 e1
    refine ⟨ι i, valV ws k, rfl, by rw [keyD_V r1 e2]; exact DGet.k hw, ?_⟩
    have e3 : (valV ws k).isSome = (valD kvs k).isSome := by
      rcases valD_V k hk rr with ⟨q1, q2⟩ | ⟨d, v, q1, q2, q3⟩ <;> rw [q1, q2] <;> rfl
    rw [e3]
    exact p.here R (RD.bl.mpr rfl)
  · exact p.elim
theorem os_dnotin : OpS C rDNotIn oDNotIn := by
  intro ι h H σ x y d1 d2 Q R r1 r2 p
  unfold oDNotIn at p
  split at p
  · rename_i kvs k e1 e2
    obtain ⟨i, ws, rfl, hi, rfl, hw, hk, rr⟩ := dictOf_rel R r2 e1
    refine ⟨ι i, valV ws k, rfl, by rw [keyD_V r1 e2]; exact DGet.k hw, ?_⟩
    have e3 : (valV ws k).isSome = (valD kvs k).isSome := by
      rcases valD_V k hk rr with ⟨q1, q2⟩ | ⟨d, v, q1, q2, q3⟩ <;> rw [q1, q2] <;> rfl
    rw [e3]
    exact p.here R (RD.bl.mpr rfl)
  · exact p.elim
theorem me_dget (hu : C.X.A.units + 1 < cLine) (ha : ME C a ma) (hb : ME C b mb) (hs : NoSl b := by intro _ _; rfl) : ME C (.Subscript a b pos) (eOp oDGet ma mb) := by
  obtain ⟨ta, pa, sa⟩ := ha
  obtain ⟨tb, pb, sb⟩ := hb
  exact ⟨_, pe_dget hu pa pb hs, sa.op sb os_dget⟩
theorem ss_dict : SetS C rSetD putD := by
  intro ι h H x y z d1 d2 d3 h' Q R r1 r2 r3 e k
  unfold putD at e
  split at e
  · rename_i r kvs key e2 e1
    split at e
    · rename_i hl
      cases e
      obtain ⟨i, ws, ei, hi, rfl, hw, hk, rr⟩ := dictOf_rel R r1 e1
      cases ei
      have ll : ws.length < sizeLine := by
        have := congrArg List.length hk
        rw [List.length_map, List.length_map] at this
        exact Nat.lt_of_le_of_lt (Nat.le_of_eq this.symm) hl
      refine ⟨ι r, _, rfl, by rw [keyD_V r2 e2]; exact DPut.k hw ll, ?_⟩
      refine k ι _ (by rw [List.length_set]; exact Ext.put R hi) (R.put hi fun xx => ⟨_, upd_same, ?_⟩)
      obtain ⟨s1, s2⟩ := setD_V key hk rr r3
      exact ⟨s1, s2.mono (xx.grow R)⟩
    · cases e
  · cases e
/-- {} -/
def eDict : EM := fun _ h => .ok (.ref h.length) (h ++ [.dK []])
theorem me_dict : ME C (.Dict [] [] pos) eDict := by
  refine ⟨_, pe_dnewK, ⟨fun env h σ H ι Q R V p => fun a ha => ?_⟩⟩
  have el : (h ++ [AO.dK []]).length = h.length + 1 := by simp
  have x : Ext ι h.length H (ιset ι h.length a) (h.length + 1) (upd H a (.dK [])) := Ext.new ha
  refine p (ιset ι h.length a) _ (.ref a) (by rw [el]; exact x) (R.new ha fun x => ⟨[], upd_same, rfl, RDs.nil'⟩) ?_
  rw [el]
  exact RD.ref.mpr ⟨Nat.lt_succ_self _, by rw [ιset_same]⟩
end
end Rf

set_option maxHeartbeats 1000000
/-! tests on dicts, a list turned round -/
namespace Rf
open PySem PySem.Spec PyProof.Rows L2
section
variable {C : Ct} {a b : Expr} {ma mb : EM} {pos : Pos}
theorem me_din (hu : C.X.A.units + 1 < cLine) (ha : ME C a ma) (hb : ME C b mb) (hm : behindInMarks .In b = false := by rfl) : ME C (.Compare a [.In] [b] pos) (eOp oDIn ma mb) := by
  obtain ⟨ta, pa, sa⟩ := ha
  obtain ⟨tb, pb, sb⟩ := hb
  exact ⟨_, pe_cmp (pc_din hu pa pb) hm, sa.op sb os_din⟩
theorem me_dnotin (hu : C.X.A.units + 1 < cLine) (ha : ME C a ma) (hb : ME C b mb) (hm : behindInMarks .NotIn b = false := by rfl) : ME C (.Compare a [.NotIn] [b] pos) (eOp oDNotIn ma mb) := by
  obtain ⟨ta, pa, sa⟩ := ha
  obtain ⟨tb, pb, sb⟩ := hb
  exact ⟨_, pe_cmp (pc_dnotin hu pa pb) hm, sa.op sb os_dnotin⟩
theorem mt_din (hu : C.X.A.units + 1 < cLine) (ha : ME C a ma) (hb : ME C b mb) (hm : behindInMarks .In b = false := by rfl) : MT C (.Compare a [.In] [b] pos) (eOp oDIn ma mb) := by
  obtain ⟨ta, pa, sa⟩ := ha
  obtain ⟨tb, pb, sb⟩ := hb
  exact ⟨_, pt_cmp (pc_din hu pa pb) hm, (sa.op sb os_din).test⟩
theorem mt_dnotin (hu : C.X.A.units + 1 < cLine) (ha : ME C a ma) (hb : ME C b mb) (hm : behindInMarks .NotIn b = false := by rfl) : MT C (.Compare a [.NotIn] [b] pos) (eOp oDNotIn ma mb) := by
  obtain ⟨ta, pa, sa⟩ := ha
  obtain ⟨tb, pb, sb⟩ := hb
  exact ⟨_, pt_cmp (pc_dnotin hu pa pb) hm, (sa.op sb os_dnotin).test⟩
/-- xs[::-1] of a list -/
def eRev (m : EM) : EM := fun env h => (m env h).then fun d h1 => match listOf h1 d with
  | some ds => .ok (.ref h1.length) (h1 ++ [.lst ds.reverse])
  | none => .stuck
theorem RDs.rev {K : PySem.W.Frag} {ι : Nat → Addr} {n : Nat} {H : Hp} : ∀ {ds : List D} {vs : List V}, RDs K ι n H ds vs → RDs K ι n H ds.reverse vs.reverse
  | [], vs, r => by rw [RDs.nil.mp r]; exact RDs.nil'
  | d :: ds, vs, r => by
    obtain ⟨v, vs', rfl, r1, r2⟩ := RDs.cons.mp r
    rw [List.reverse_cons, List.reverse_cons]
    exact RDs.append (RDs.rev r2) (RDs.cons' r1 RDs.nil')
theorem me_rev {k : Nat} {p1 p2 p3 : Pos} (ha : ME C a ma) : ME C (.Subscript a (.Slice none none (some (.UnaryOp .USub (.Constant (.int 1) k p1) p2)) p3) pos) (eRev ma) := by
  obtain ⟨ta, pa, sa⟩ := ha
  refine ⟨_, pe_revL pa, ⟨fun env h σ H ι Q R V p => ?_⟩⟩
  refine sa.then R V p fun d1 h1 ι1 H1 v1 x1 R1 V1 r1 p1 => ?_
  split at p1
  · rename_i ds e
    obtain ⟨a, vs, rfl, s, rr⟩ := listOf_sq R1 r1 e
    exact ⟨a, vs, rfl, s, fun l hl => PostE.lst p1 R1 (RDs.rev rr) hl⟩
  · exact p1.elim
end
end Rf

set_option maxHeartbeats 1000000
/-! comprehensions with two fors: the new list stands among the things from the start -/
namespace Rf
open PySem PySem.Spec PyProof.Rows L2
noncomputable def app1 (r : Nat) (d : D) (h : AH) : Option AH := match h[r]? with
  | some (.lst ds) => if FitsL ds.length then some (h.set r (.lst (ds ++ [d]))) else none
  | _ => none
noncomputable def lcI (it : AIt) (g : GM) (tt te : EM) (e0 : AE) (r : Nat) : Nat → Nat → AH → Option AH
  | 0, _, _ => none
  | k + 1, i, h => match it.nxt i h with
    | some none => some h
    | some (some d) => (match g d e0 h with
      | .nx e1 h1 => (match tt e1 h1 with
        | .ok (.bl true) h2 => (match te e1 h2 with
          | .ok d2 h3 => (match app1 r d2 h3 with
            | some h4 => lcI it g tt te e0 r k (i + 1) h4
            | none => none)
          | _ => none)
        | .ok (.bl false) h2 => lcI it g tt te e0 r k (i + 1) h2
        | _ => none)
      | _ => none)
    | none => none
noncomputable def lcO (it : AIt) (g : GM) (tt : EM) (mi1 : IM) (g1 : GM) (tt1 te : EM) (vs1 : List Nat) (e0 : AE) (r : Nat) : Nat → Nat → AH → Option AH
  | 0, _, _ => none
  | k + 1, i, h => match it.nxt i h with
    | some none => some h
    | some (some d) => (match g d e0 h with
      | .nx e1 h1 => (match tt e1 h1 with
        | .ok (.bl true) h2 => (match mi1 e1 h2 with
          | .ok it1 h3 => (match lcI it1 g1 tt1 te (wipeE e1 vs1) r (it1.n + 1) 0 h3 with
            | some h4 => lcO it g tt mi1 g1 tt1 te vs1 e0 r k (i + 1) h4
            | none => none)
          | _ => none)
        | .ok (.bl false) h2 => lcO it g tt mi1 g1 tt1 te vs1 e0 r k (i + 1) h2
        | _ => none)
      | _ => none)
    | none => none
noncomputable def eLc2 (mi : IM) (g : GM) (tt : EM) (mi1 : IM) (g1 : GM) (tt1 te : EM) (vs vs1 : List Nat) : EM := fun e h => match mi e h with
  | .ok it h1 => (match lcO it g tt mi1 g1 tt1 te vs1 (wipeE e vs) h1.length (it.n + 1) 0 (h1 ++ [.lst []]) with
    | some h2 => .ok (.ref h1.length) h2
    | none => .stuck)
  | .exc c fs h1 => .exc c fs h1
  | .stuck => .stuck
def canI (C : Ct) (m : IM) : TI := fun σ H Q => ∃ env h ι, Rel C.X.K ι h H ∧ RV C ι h.length H env σ ∧ PostI C ι h.length H σ (m env h) Q
theorem MI.can {C : Ct} {tg e : Expr} {m : IM} (h : MI C tg e m) : PI C.X tg e (canI C m) := by
  obtain ⟨t, p, s⟩ := h
  exact ⟨fun pins st σ H Q I ⟨env, h, ι, R, V, q⟩ => p.run pins st σ H Q I (s.run env h σ H ι Q R V q)⟩
section
variable {C : Ct} {elt tg iter tg1 iter1 : Expr} {ifs ifs1 : List Expr} {scope : Scope} {own : List (Str × Nat)} {vs1 : List Nat} {pos : Pos} {mi mi1 : IM} {g g1 : GM} {t t1 : TG} {mt mt1 me : EM}
theorem SimE.lc2 {ti : TI} (si : SimI C ti mi) (sg : ∀ s H Cc cl fp, SimG (C.blk s H scope Cc cl fp) t g ∧ OnlyAt t (own.map (·.2))) (sg1 : ∀ s H Cc cl fp, SimG (C.blk s H scope Cc cl fp) t1 g1 ∧ OnlyAt t1 vs1) :
    SimE C (tLc2 ti t (canT C.flat mt) (canI C.flat mi1) t1 (canT C.flat mt1) (canE C.flat me) (own.map (·.2)) vs1) (eLc2 mi g mt mi1 g1 mt1 me (own.map (·.2)) vs1) := by
  refine ⟨fun env h σ H ι Q R V p => ?_⟩
  refine si.run env h σ H ι _ R V ?_
  unfold eLc2 at p
  cases hm : mi env h with
  | exc c fs h1 => rw [hm] at p; exact p
  | stuck => rw [hm] at p; exact p
  | ok it h1 =>
    rw [hm] at p
    dsimp only at p
    refine fun ι0 H0 J x0 R0 J0 Dp hD => ?_
    have V0 := V.ext R x0
    cases hl : lcO it g mt mi1 g1 mt1 me vs1 (wipeE env (own.map (·.2))) h1.length (it.n + 1) 0 (h1 ++ [.lst []]) with
    | none => rw [hl] at p; exact (show False from p).elim
    | some hF =>
      rw [hl] at p
      dsimp only at p
      have el : (h1 ++ [AO.lst []]).length = h1.length + 1 := by simp
      have xn : Ext ι0 h1.length H0 (ιset ι0 h1.length Dp) (h1.length + 1) (upd H0 Dp (.lst [])) := Ext.new hD
      have Rn : Rel C.X.K (ιset ι0 h1.length Dp) (h1 ++ [.lst []]) (upd H0 Dp (.lst [])) := R0.new hD fun x => ⟨[], upd_same, RDs.nil'⟩
      refine ⟨fun i m H => ∃ h ι, Ext (ιset ι0 h1.length Dp) (h1.length + 1) (upd H0 Dp (.lst [])) ι h.length H ∧ Rel C.X.K ι h H ∧ RE C.X.K ι h.length H (wipeE env (own.map (·.2))) (L2.wipe σ (own.map (·.2))) ∧
        lcO it g mt mi1 g1 mt1 me vs1 (wipeE env (own.map (·.2))) h1.length m i h = some hF,
        ⟨it.n + 1, h1 ++ [.lst []], ιset ι0 h1.length Dp, by rw [el]; exact .refl, Rn, by rw [el]; exact (V0.re.wipe _).mono (xn.grow R0), hl⟩, ?_⟩
      rintro i m H ⟨h, ι', x, R, E, hq⟩
      cases m with
      | zero => cases hq
      | succ m =>
        obtain ⟨j1, j2⟩ := J0 i ι' h H (xn.trans x) R
        unfold lcO at hq
        cases hn : it.nxt i h with
        | none => rw [hn] at hq; cases hq
        | some od =>
          rw [hn] at hq
          cases od with
          | none =>
            cases hq
            refine .inl ⟨j1 hn, p ι' H (.ref Dp) (x0.trans (xn.trans x)) R (RD.ref.mpr ⟨?_, ?_⟩)⟩
            · have := x.le; omega
            · rw [x.ag _ (by omega), ιset_same]
          | some d =>
            dsimp only at hq
            obtain ⟨go, y⟩ := j2 d hn
            refine .inr ⟨go, _, fun H' hN => ⟨m, Nat.lt_succ_self m, hN⟩, fun xv H2 hy => ?_⟩
            obtain ⟨ι2, x2, R2, r2⟩ := y xv H2 hy
            have E2 := E.mono (x2.grow R)
            have sgo := sg C.X.s_0 H2 0 [] []
            cases hgd : g d (wipeE env (own.map (·.2))) h with
            | nx e3 h3 =>
              rw [hgd] at hq
              dsimp only at hq
              refine sgo.2.at_ (wipe_wipe fun _ h => h) (sgo.1.run d xv _ h _ H2 ι2 _ R2 ⟨E2, trivial⟩ r2 ?_)
              rw [hgd]
              refine fun ι3 H3 σ3 x3 R3 V3 => ?_
              have V3' : RV C.flat ι3 h3.length H3 e3 σ3 := ⟨V3.re, trivial⟩
              have E3 := E2.mono (x3.grow R2)
              refine ⟨e3, h3, ι3, R3, V3', ?_⟩
              cases htt : mt e3 h3 with
              | ok db h4 =>
                rw [htt] at hq
                cases db with
                | bl b =>
                  refine ⟨b, rfl, fun ι4 H4 x4 R4 => ?_⟩
                  have xx := x.trans (x2.trans (x3.trans x4))
                  have E4 := E3.mono (x4.grow R3)
                  have V4 := V3'.ext R3 x4
                  cases b with
                  | false =>
                    dsimp only at hq
                    refine iteF ?_
                    exact ⟨h4, ι4, xx, R4, E4, hq⟩
                  | true =>
                    dsimp only at hq
                    refine iteT ?_
                    refine ⟨e3, h4, ι4, R4, V4, ?_⟩
                    cases hmi : mi1 e3 h4 with
                    | exc c fs h5 => rw [hmi] at hq; cases hq
                    | stuck => rw [hmi] at hq; cases hq
                    | ok it1 h5 =>
                      rw [hmi] at hq
                      dsimp only at hq
                      refine fun ι5 H5 J1 x5 R5 J15 => ?_
                      have E5 := E4.mono (x5.grow R4)
                      have V5 := V4.ext R4 x5
                      cases hli : lcI it1 g1 mt1 me (wipeE e3 vs1) h1.length (it1.n + 1) 0 h5 with
                      | none => rw [hli] at hq; cases hq
                      | some hG =>
                        rw [hli] at hq
                        dsimp only at hq
                        refine ⟨fun j k H => ∃ h ι, Ext ι5 h5.length H5 ι h.length H ∧ Rel C.X.K ι h H ∧ RE C.X.K ι h.length H (wipeE env (own.map (·.2))) (L2.wipe σ (own.map (·.2))) ∧ RE C.X.K ι h.length H (wipeE e3 vs1) (L2.wipe σ3 vs1) ∧
                          lcI it1 g1 mt1 me (wipeE e3 vs1) h1.length k j h = some hG, ⟨it1.n + 1, h5, ι5, .refl, R5, E5, V5.re.wipe _, hli⟩, ?_⟩
                        rintro j k H ⟨h, ι', xi, R, E, Ei, hqi⟩
                        cases k with
                        | zero => cases hqi
                        | succ k =>
                          obtain ⟨k1, k2⟩ := J15 j ι' h H xi R
                          unfold lcI at hqi
                          cases hn1 : it1.nxt j h with
                          | none => rw [hn1] at hqi; cases hqi
                          | some od1 =>
                            rw [hn1] at hqi
                            cases od1 with
                            | none =>
                              cases hqi
                              exact .inl ⟨k1 hn1, hG, ι', xx.trans (x5.trans xi), R, E, hq⟩
                            | some d1 =>
                              dsimp only at hqi
                              obtain ⟨go1, y1⟩ := k2 d1 hn1
                              refine .inr ⟨go1, _, fun H' hN => ⟨k, Nat.lt_succ_self k, hN⟩, fun xv1 H6 hy1 => ?_⟩
                              obtain ⟨ι6, x6, R6, r6⟩ := y1 xv1 H6 hy1
                              have E6 := E.mono (x6.grow R)
                              have Ei6 := Ei.mono (x6.grow R)
                              have sgo1 := sg1 C.X.s_0 H6 0 [] []
                              cases hgd1 : g1 d1 (wipeE e3 vs1) h with
                              | nx e7 h7 =>
                                rw [hgd1] at hqi
                                dsimp only at hqi
                                refine sgo1.2.at_ (wipe_wipe fun _ h => h) (sgo1.1.run d1 xv1 _ h _ H6 ι6 _ R6 ⟨Ei6, trivial⟩ r6 ?_)
                                rw [hgd1]
                                refine fun ι7 H7 σ7 x7 R7 V7 => ?_
                                have V7' : RV C.flat ι7 h7.length H7 e7 σ7 := ⟨V7.re, trivial⟩
                                have E7 := E6.mono (x7.grow R6)
                                have Ei7 := Ei6.mono (x7.grow R6)
                                refine ⟨e7, h7, ι7, R7, V7', ?_⟩
                                cases htt1 : mt1 e7 h7 with
                                | ok db1 h8 =>
                                  rw [htt1] at hqi
                                  cases db1 with
                                  | bl b1 =>
                                    refine ⟨b1, rfl, fun ι8 H8 x8 R8 => ?_⟩
                                    have E8 := E7.mono (x8.grow R7)
                                    have Ei8 := Ei7.mono (x8.grow R7)
                                    have x68 := xi.trans (x6.trans (x7.trans x8))
                                    cases b1 with
                                    | false =>
                                      dsimp only at hqi
                                      refine iteF ?_
                                      exact ⟨h8, ι8, x68, R8, E8, Ei8, hqi⟩
                                    | true =>
                                      dsimp only at hqi
                                      refine iteT ?_
                                      refine ⟨e7, h8, ι8, R8, V7'.ext R7 x8, ?_⟩
                                      cases hte : me e7 h8 with
                                      | exc c fs h9 => rw [hte] at hqi; cases hqi
                                      | stuck => rw [hte] at hqi; cases hqi
                                      | ok d9 h9 =>
                                        rw [hte] at hqi
                                        dsimp only at hqi
                                        refine fun ι9 H9 v9 x9 R9 r9 => ?_
                                        have E9 := E8.mono (x9.grow R8)
                                        have Ei9 := Ei8.mono (x9.grow R8)
                                        have x99 := x68.trans x9
                                        cases ha : app1 h1.length d9 h9 with
                                        | none => rw [ha] at hqi; cases hqi
                                        | some hA =>
                                          rw [ha] at hqi
                                          dsimp only at hqi
                                          unfold app1 at ha
                                          cases hr : h9[h1.length]? with
                                          | none => rw [hr] at ha; cases ha
                                          | some o =>
                                            rw [hr] at ha
                                            cases o with
                                            | lst ds =>
                                              dsimp only at ha
                                              by_cases hz : FitsL ds.length
                                              · rw [if_pos hz] at ha
                                                cases ha
                                                obtain ⟨ws, hw, rr⟩ := R9.ob _ _ hr
                                                have hi9 := (List.getElem?_eq_some_iff.mp hr).1
                                                have xall := xx.trans (x5.trans x99)
                                                have eD : ι9 h1.length = Dp := by rw [xall.ag _ (by omega), ιset_same]
                                                rw [eD] at hw
                                                have xp : Ext ι9 h9.length H9 ι9 h9.length (upd H9 (ι9 h1.length) (.lst (ws ++ [v9]))) := Ext.put R9 hi9
                                                have Rp : Rel C.X.K ι9 (h9.set h1.length (.lst (ds ++ [d9]))) (upd H9 (ι9 h1.length) (.lst (ws ++ [v9]))) := R9.put hi9 fun xq => ⟨_, upd_same, RDs.append (rr.mono (xq.grow R9)) (RDs.cons' (r9.mono (xq.grow R9)) RDs.nil')⟩
                                                rw [eD] at xp Rp
                                                have ls : (h9.set h1.length (AO.lst (ds ++ [d9]))).length = h9.length := List.length_set ..
                                                refine ⟨ws, hw, by rw [← rr.length]; exact hz, _, ι9, by rw [ls]; exact x99.trans xp, Rp, by rw [ls]; exact E9.mono (xp.grow R9), by rw [ls]; exact Ei9.mono (xp.grow R9), hqi⟩
                                              · rw [if_neg hz] at ha; cases ha
                                            | _ => cases ha
                                  | _ => cases hqi
                                | exc c fs h8 => rw [htt1] at hqi; cases hqi
                                | stuck => rw [htt1] at hqi; cases hqi
                              | _ => rw [hgd1] at hqi; cases hqi
                | _ => cases hq
              | exc c fs h4 => rw [htt] at hq; cases hq
              | stuck => rw [htt] at hq; cases hq
            | _ => rw [hgd] at hq; cases hq
theorem me_lc2 (hc : C.X.calm = true) (hN : C.X.N.Nodup) (hi : MI C tg iter mi) (ok : BlkOk C.X.N C.X.env.scope scope own) (hv : ∀ i ∈ vs1, i ∈ own.map (·.2))
    (hg : ∀ s H Cc cl fp, MGc (C.blk s H scope Cc cl fp) tg g t (own.map (·.2))) (ht : ∀ s H Cc cl fp, MTs (C.blk s H scope Cc cl fp) ifs mt)
    (hi1 : ∀ s H Cc cl fp, MI (C.blk s H scope Cc cl fp) tg1 iter1 mi1) (hg1 : ∀ s H Cc cl fp, MGc (C.blk s H scope Cc cl fp) tg1 g1 t1 vs1) (ht1 : ∀ s H Cc cl fp, MTs (C.blk s H scope Cc cl fp) ifs1 mt1)
    (he : ∀ s H Cc cl fp, ME (C.blk s H scope Cc cl fp) elt me) (hs : ∀ x, foldedSetIterable iter C.X.env x = pure x := by intro _; rfl) (hs1 : ∀ env x, foldedSetIterable iter1 env x = pure x := by intro _ _; rfl) :
    ME C (.ListComp elt [⟨tg, iter, ifs, 0⟩, ⟨tg1, iter1, ifs1, 0⟩] scope pos) (eLc2 mi g mt mi1 g1 mt1 me (own.map (·.2)) vs1) := by
  obtain ⟨ti, pi, si⟩ := hi
  exact ⟨_, pe_lc2 hc hN pi ok hv (fun s H Cc cl fp => (hg s H Cc cl fp).1) (fun s H Cc cl fp => (ht s H Cc cl fp).can) (fun s H Cc cl fp => (hi1 s H Cc cl fp).can) (fun s H Cc cl fp => (hg1 s H Cc cl fp).1) (fun s H Cc cl fp => (ht1 s H Cc cl fp).can) (fun s H Cc cl fp => (he s H Cc cl fp).can) hs hs1,
    SimE.lc2 si (fun s H Cc cl fp => (hg s H Cc cl fp).2) (fun s H Cc cl fp => (hg1 s H Cc cl fp).2)⟩
theorem ms_setLc2 {i : Nat} {y : Str} {py spos : Pos} (hc : C.X.calm = true) (hN : C.X.N.Nodup) (hy : C.X.N[i]? = some y) (hyl : C.X.env.scope.names.lookup y = some .local)
    (hsw : swapsWith (.ListComp elt [⟨tg, iter, ifs, 0⟩, ⟨tg1, iter1, ifs1, 0⟩] scope pos) (some (.Name y py)) spos.line C.X.env = pure true) (hi : MI C tg iter mi) (ok : BlkOk C.X.N C.X.env.scope scope own) (hv : ∀ i ∈ vs1, i ∈ own.map (·.2))
    (hg : ∀ s H Cc cl fp, MGc (C.blk s H scope Cc cl fp) tg g t (own.map (·.2))) (ht : ∀ s H Cc cl fp, MTs (C.blk s H scope Cc cl fp) ifs mt)
    (hi1 : ∀ s H Cc cl fp, MI (C.blk s H scope Cc cl fp) tg1 iter1 mi1) (hg1 : ∀ s H Cc cl fp, MGc (C.blk s H scope Cc cl fp) tg1 g1 t1 vs1) (ht1 : ∀ s H Cc cl fp, MTs (C.blk s H scope Cc cl fp) ifs1 mt1)
    (he : ∀ s H Cc cl fp, ME (C.blk s H scope Cc cl fp) elt me) (hne : ∀ y, C.ea = some y → y.i ≠ i := by exact fun _ z => nomatch z) (hs : ∀ x, foldedSetIterable iter C.X.env x = pure x := by intro _; rfl) (hs1 : ∀ env x, foldedSetIterable iter1 env x = pure x := by intro _ _; rfl) :
    MS C (.Assign [.Name y py] (.ListComp elt [⟨tg, iter, ifs, 0⟩, ⟨tg1, iter1, ifs1, 0⟩] scope pos) spos) (sSet i (eLc2 mi g mt mi1 g1 mt1 me (own.map (·.2)) vs1)) := by
  obtain ⟨ti, pi, si⟩ := hi
  refine ⟨_, ps_setLc2 (te := canE C.flat me) (tt := canT C.flat mt) (tt1 := canT C.flat mt1) (wi1 := canI C.flat mi1) hc hN hy hyl hsw pi ok hv (fun s H Cc cl fp => (hg s H Cc cl fp).1) (fun s H Cc cl fp => (ht s H Cc cl fp).can) (fun s H Cc cl fp => (hi1 s H Cc cl fp).can) (fun s H Cc cl fp => (hg1 s H Cc cl fp).1) (fun s H Cc cl fp => (ht1 s H Cc cl fp).can) (fun s H Cc cl fp => (he s H Cc cl fp).can) hs hs1, ⟨fun env h σ H ι D R V p => ?_⟩⟩
  have s1 : SimE C _ (eLc2 mi g mt mi1 g1 mt1 me (own.map (·.2)) vs1) := SimE.lc2 si (fun s H Cc cl fp => (hg s H Cc cl fp).2) (fun s H Cc cl fp => (hg1 s H Cc cl fp).2)
  exact s1.thenS R V p fun d h1 ι1 H1 v1 x1 R1 V1 r1 p1 => p1 ι1 H1 _ .refl R1 (V1.set i r1 hne)
end
end Rf

set_option maxHeartbeats 1000000
/-! built-in functions called with keywords: sorted(xs, reverse=True) of ints -/
namespace Rf
open PySem PySem.Spec PyProof.Rows L2
def CallSK (C : Ct) (r : List V → List V → Hp → VK → Prop) (g : List D → List D → AH → ER) : Prop := ∀ (ι : Nat → Addr) (h : AH) (H : Hp) (σ : List (Option V)) (xs zs : List V) (ds es : List D) (Q : VK), Rel C.X.K ι h H → RDs C.X.K ι h.length H ds xs → RDs C.X.K ι h.length H es zs → PostE C ι h.length H σ (g ds es h) Q → r xs zs H Q
def eCallBK (g : List D → List D → AH → ER) (ml mk : LM) : EM := fun env h => (ml env h).then fun ds h1 => (mk env h1).then fun es h2 => g ds es h2
section
variable {C : Ct} {x : Str} {p pos : Pos} {e : Expr} {es : List Expr} {kws : List Keyword} {id : String} {ks : List Str} {r : List V → List V → Hp → VK → Prop} {g : List D → List D → AH → ER} {ml mk : LM}
theorem me_callBK (hc : CallRK C.X (.builtin id) ks r) (hs : CallSK C r g) (hm : C.X.mg x = none) (ha : MA C (e :: es) ml) (hw : MK C kws mk) (hv : bootBuiltins x = some (.builtin id) := by decide +kernel) (hg : Gl C.X x := by rfl) (hn : x ≠ "__name__" := by decide) (hdb : (x == ("__debug__" : Str)) = false := by decide)
    (he : backTo pos (starEach (e :: es) C.X.env) = (false, eval e C.X.env) :: backTo pos (starEach es C.X.env) := by rfl) (hpl : (backTo pos (starEach (e :: es) C.X.env)).any (·.1) = false := by rfl)
    (hall : (backToKw pos (keywordEach kws C.X.env)).all (·.1.isSome) = true := by rfl) (hnone : (backToKw pos (keywordEach kws C.X.env)).any (·.1.isNone) = false := by rfl) (hks : (backToKw pos (keywordEach kws C.X.env)).filterMap (·.1) = ks := by rfl) :
    ME C (.Call (.Name x p) (e :: es) kws pos) (eCallBK g ml mk) := by
  obtain ⟨t, pa, s⟩ := ha
  obtain ⟨t2, pk, s2⟩ := hw
  refine ⟨_, pe_callBK hc hg hm hv pa pk hn hdb he hpl hall hnone hks, ⟨fun env h σ H ι Q R V q => ?_⟩⟩
  refine s.run env h σ H ι _ R V ?_
  unfold eCallBK at q
  cases hm : ml env h with
  | ok ds h1 =>
    rw [hm] at q
    refine fun ι' H' vs x R' r => ?_
    refine s2.run env h1 σ H' ι' _ R' (V.ext R x) ?_
    have q1 : PostE C ι h.length H σ ((mk env h1).then fun es h2 => g ds es h2) Q := q
    cases hm2 : mk env h1 with
    | ok es h2 =>
      rw [hm2] at q1
      refine fun ι2 H2 zs x2 R2 r2 => ?_
      exact hs ι2 h2 H2 σ vs zs ds es Q R2 (r.mono (x2.grow R')) r2 (PostE.shift q1 (x.trans x2))
    | exc c fs h2 =>
      rw [hm2] at q1
      exact fun ι2 H2 Cl dd x2 => q1 ι2 H2 Cl dd (x.trans x2)
    | stuck => rw [hm2] at q1; exact q1
  | exc c fs h1 => rw [hm] at q; exact q
  | stuck => rw [hm] at q; exact q
/-- sorted(xs, reverse=b) -/
noncomputable def cSortedR (ds es : List D) (h : AH) : ER := match ds, es with
  | [.ref i], [.bl b] => (match h[i]? with
    | some (.lst us) => (match intsOf us with
      | some ns => .ok (.ref h.length) (h ++ [.lst ((if b then (intSort ns).reverse else intSort ns).map D.int)])
      | none => .stuck)
    | _ => .stuck)
  | _, _ => .stuck
theorem intSort_rev {ns ys : List Int} (p : ys.Perm ns) (u : ys.Pairwise (· ≥ ·)) : ys = (intSort ns).reverse := by
  have := intSort_eq (ns := ns) (ys := ys.reverse) ((List.reverse_perm ys).trans p) (by rw [List.pairwise_reverse]; exact u)
  rw [← this, List.reverse_reverse]
theorem cr_sortedRv : CallRK C.X (.builtin "sorted") [Str.ofString "reverse"] (fun vs zs H Q => ∃ b, rSortedKw C.X.K b [.bl b] vs zs H Q) := by
  intro pins s σ H vs zs us ws Q I r rz h
  obtain ⟨b, h⟩ := h
  exact cr_sortedRev pins s σ H vs zs us ws Q I r rz h
theorem cs_sortedR : CallSK C (fun vs zs H Q => ∃ b, rSortedKw C.X.K b [.bl b] vs zs H Q) cSortedR := by
  intro ι h H σ xs zs ds es Q R r rz p
  unfold cSortedR at p
  split at p
  · rename_i i b
    obtain ⟨v, rfl, q1⟩ := r.one
    obtain ⟨z, rfl, q2⟩ := rz.one
    split at p
    · rename_i us e
      split at p
      · rename_i ns e2
        obtain ⟨vs, rfl, e1, rr⟩ := q1.list R e
        have hs : SqL C.X.K H (ι i) vs := SqL.of e1
        rw [intsOf_eq e2] at rr
        rw [rr.ints] at hs
        refine ⟨b, _, ns, rfl, by rw [RD.bl.mp q2], hs, fun ns' p' pm up hp => ?_⟩
        have en : ns' = (if b then (intSort ns).reverse else intSort ns) := by
          cases b with
          | true => exact intSort_rev pm up
          | false => exact intSort_eq pm up
        rw [en]
        exact PostE.lst p R (RDs.mk_ints _) hp
      · exact p.elim
    · exact p.elim
  · exact p.elim
end
/-- a def of the module that is called with keywords alone (keyword-only parameters) -/
structure DB (K : PySem.W.Frag) (mg : Str → Option Value) (x : Str) (st : Stmt) (f : Addr) (fd : FuncData) : Prop where
  fn : Fun K x x st f fd
  mgf : mg x = some (.ref f)
/-! in, not in: over lists and tuples of data -/
section
variable {X : Cx}
def rInT (K : PySem.W.Frag) : R2 := fun x y H Q => ∃ d ds, Dp K H x d ∧ Dp K H y (.tuple ds) ∧ SeqAt.shaped d = true ∧ SeqAt.shaped (.tuple ds) = true ∧ Q (.bl (ds.any fun z => PyData.eqv z d)) H
def rNotInT (K : PySem.W.Frag) : R2 := fun x y H Q => ∃ d ds, Dp K H x d ∧ Dp K H y (.tuple ds) ∧ SeqAt.shaped d = true ∧ SeqAt.shaped (.tuple ds) = true ∧ Q (.bl (!ds.any fun z => PyData.eqv z d)) H
theorem op_inT (hu : X.A.units + 65 < cLine) : OpR X (compareOp .In) (rInT X.K) := by
  intro pins s σ H x y v u Q I rx ry h
  obtain ⟨d, ds, hd, he, sd, se, q⟩ := h
  obtain ⟨as, r1⟩ := Dp.reads I d x v hd rx
  obtain ⟨bs, r2⟩ := Dp.reads I (.tuple ds) y u he ry
  exact SeqAt.in_tuple_reads r2 r1 (SeqAt.canLay_of_shaped se) (SeqAt.canLay_of_shaped sd) (room_in_shaped sd hu) ⟨.bl _, H, I, rfl, q⟩
theorem op_notInT (hu : X.A.units + 65 < cLine) : OpR X (compareOp .NotIn) (rNotInT X.K) := by
  intro pins s σ H x y v u Q I rx ry h
  obtain ⟨d, ds, hd, he, sd, se, q⟩ := h
  obtain ⟨as, r1⟩ := Dp.reads I d x v hd rx
  obtain ⟨bs, r2⟩ := Dp.reads I (.tuple ds) y u he ry
  exact SeqAt.notIn_tuple_reads r2 r1 (SeqAt.canLay_of_shaped se) (SeqAt.canLay_of_shaped sd) (room_in_shaped sd hu) ⟨.bl _, H, I, rfl, q⟩
def rIn2 (K : PySem.W.Frag) : R2 := fun x y H Q => rInD K x y H Q ∨ rInT K x y H Q
def rNotIn2 (K : PySem.W.Frag) : R2 := fun x y H Q => rNotInD K x y H Q ∨ rNotInT K x y H Q
theorem op_in2 (hu : X.A.units + 65 < cLine) : OpR X (compareOp .In) (rIn2 X.K) := (op_inD hu).or (op_inT hu)
theorem op_notIn2 (hu : X.A.units + 65 < cLine) : OpR X (compareOp .NotIn) (rNotIn2 X.K) := (op_notInD hu).or (op_notInT hu)
end
def oIn2 (a b : D) (h : AH) : ER := match a.toP h 20, b.toP h 20 with
  | some p, some (.list qs) => .ok (.bl (qs.any fun z => PyData.eqv z p)) h
  | some p, some (.tuple qs) => .ok (.bl (qs.any fun z => PyData.eqv z p)) h
  | _, _ => .stuck
def oNotIn2 (a b : D) (h : AH) : ER := match a.toP h 20, b.toP h 20 with
  | some p, some (.list qs) => .ok (.bl (!qs.any fun z => PyData.eqv z p)) h
  | some p, some (.tuple qs) => .ok (.bl (!qs.any fun z => PyData.eqv z p)) h
  | _, _ => .stuck
section
variable {C : Ct}
theorem os_in2 : OpS C (rIn2 C.X.K) oIn2 := by
  intro ι h H σ x y d1 d2 Q R r1 r2 p
  unfold oIn2 at p
  split at p
  · rename_i a b e1 e2
    obtain ⟨a1, a2, a3⟩ := toP_dp R _ _ _ _ r1 e1
    obtain ⟨b1, b2, b3⟩ := toP_dp R _ _ _ _ r2 e2
    exact .inl ⟨a, b, a1, b1, toP_shaped a2 a3, toP_shaped b2 b3, p.here R (RD.bl.mpr rfl)⟩
  · rename_i a b e1 e2
    obtain ⟨a1, a2, a3⟩ := toP_dp R _ _ _ _ r1 e1
    obtain ⟨b1, b2, b3⟩ := toP_dp R _ _ _ _ r2 e2
    exact .inr ⟨a, b, a1, b1, toP_shaped a2 a3, toP_shaped b2 b3, p.here R (RD.bl.mpr rfl)⟩
  · exact p.elim
theorem os_notIn2 : OpS C (rNotIn2 C.X.K) oNotIn2 := by
  intro ι h H σ x y d1 d2 Q R r1 r2 p
  unfold oNotIn2 at p
  split at p
  · rename_i a b e1 e2
    obtain ⟨a1, a2, a3⟩ := toP_dp R _ _ _ _ r1 e1
    obtain ⟨b1, b2, b3⟩ := toP_dp R _ _ _ _ r2 e2
    exact .inl ⟨a, b, a1, b1, toP_shaped a2 a3, toP_shaped b2 b3, p.here R (RD.bl.mpr rfl)⟩
  · rename_i a b e1 e2
    obtain ⟨a1, a2, a3⟩ := toP_dp R _ _ _ _ r1 e1
    obtain ⟨b1, b2, b3⟩ := toP_dp R _ _ _ _ r2 e2
    exact .inr ⟨a, b, a1, b1, toP_shaped a2 a3, toP_shaped b2 b3, p.here R (RD.bl.mpr rfl)⟩
  · exact p.elim
end
end Rf

set_option maxHeartbeats 1000000
/-! *xs in a row of arguments or a display; max and min of a list of ints -/
namespace Rf
open PySem PySem.Spec PyProof.Rows L2
section
variable {C : Ct} {e : Expr} {m : EM} {p : Pos}
def lStar (a : EM) (r : LM) : LM := fun env h => match a env h with
  | .ok d h1 => (match seqOf h1 d with
    | some xs => (match r env h1 with
      | .ok ds h2 => .ok (xs ++ ds) h2
      | .exc c fs h2 => .exc c fs h2
      | .stuck => .stuck)
    | none => .stuck)
  | .exc c fs h1 => .exc c fs h1
  | .stuck => .stuck
theorem ma_star {es : List Expr} {mr : LM} (ha : ME C e m) (hr : MA C es mr) (hs : starEach (.Starred e p :: es) C.X.env = (true, eval e C.X.env) :: starEach es C.X.env := by rfl) : MA C (.Starred e p :: es) (lStar m mr) := by
  obtain ⟨ta, pa, sa⟩ := ha
  obtain ⟨tr, pr, sr⟩ := hr
  refine ⟨_, StX.pa_star pa pr hs, ⟨fun env h σ H ι Q R V p => ?_⟩⟩
  refine sa.run env h σ H ι _ R V ?_
  unfold lStar at p
  cases hm : m env h with
  | ok d h1 =>
    rw [hm] at p
    dsimp only at p
    refine fun ι' H' v x R' r => ?_
    cases hx : seqOf h1 d with
    | none => rw [hx] at p; exact p.elim
    | some xs =>
      rw [hx] at p
      dsimp only at p
      obtain ⟨a, vs, rfl, s, rr⟩ := seqOf_sq R' r hx
      refine ⟨a, vs, rfl, s.symm, ?_⟩
      refine sr.run env h1 σ H' ι' _ R' (V.ext R x) ?_
      cases hm2 : mr env h1 with
      | ok ds h2 =>
        rw [hm2] at p
        exact fun ι2 H2 ws x2 R2 r2 => p ι2 H2 _ (x.trans x2) R2 (RDs.append (RDs.mono (x2.grow R') rr) r2)
      | exc c fs h2 =>
        rw [hm2] at p
        exact fun ι2 H2 Cl dd x2 => p ι2 H2 Cl dd (x.trans x2)
      | stuck => rw [hm2] at p; exact p
  | exc c fs h1 => rw [hm] at p; exact p
  | stuck => rw [hm] at p; exact p
/-! targets within targets, in a comprehension -/
theorem mono_nil : ∀ vs σ H (Q Q' : List (Option V) → Hp → Prop), (∀ a b, Q a b → Q' a b) → L2.gNil vs σ H Q → L2.gNil vs σ H Q' := fun _ _ _ _ _ f q => ⟨q.1, f _ _ q.2⟩
theorem mono_cons {t : TG} {u : TGs} (m1 : ∀ v σ H (Q Q' : List (Option V) → Hp → Prop), (∀ a b, Q a b → Q' a b) → t v σ H Q → t v σ H Q') (m2 : ∀ vs σ H (Q Q' : List (Option V) → Hp → Prop), (∀ a b, Q a b → Q' a b) → u vs σ H Q → u vs σ H Q') :
    ∀ vs σ H (Q Q' : List (Option V) → Hp → Prop), (∀ a b, Q a b → Q' a b) → L2.gCons t u vs σ H Q → L2.gCons t u vs σ H Q' := fun _ _ _ _ _ f ⟨v, r, e, q⟩ => ⟨v, r, e, m1 _ _ _ _ _ (fun a b q => m2 _ _ _ _ _ f q) q⟩
theorem mono_tup {K : PySem.W.Frag} {n : Nat} {u : TGs} (m2 : ∀ vs σ H (Q Q' : List (Option V) → Hp → Prop), (∀ a b, Q a b → Q' a b) → u vs σ H Q → u vs σ H Q') :
    ∀ v σ H (Q Q' : List (Option V) → Hp → Prop), (∀ a b, Q a b → Q' a b) → L2.gTup K n u v σ H Q → L2.gTup K n u v σ H Q' := fun _ _ _ _ _ f ⟨a, xs, e, q1, q2, q3⟩ => ⟨a, xs, e, q1, q2, m2 _ _ _ _ _ f q3⟩
theorem mgc_tupK {K : PySem.W.Frag} {es : List Expr} {kk k : Nat} {pos : Pos} {r : List D → AE → AH → SR} {u : TGs} {vs : List Nat} (hc : C.X.calm = true) (h : MGcs C es r u vs) (hK : C.X.K = K := by rfl) (hn : (assignEach es C.X.env).length = k := by rfl) (hst : (assignEach es C.X.env).findIdx? (·.1) = none := by rfl) : MGc C (.Tuple es kk pos) (gTup k r) (L2.gTup K k u) vs := by
  subst hK
  exact mgc_tup hc h hn hst
/-- for q, (a, b) in .. -/
theorem mgc_nest {x y z : Str} {i j k n1 n2 : Nat} {p1 p2 p3 p4 p5 : Pos} {vs : List Nat} {K : PySem.W.Frag} (hc : C.X.calm = true) (h1 : MGc C (.Name x p1) (gVar i) (gName i) vs) (h2 : MGc C (.Name y p2) (gVar j) (gName j) vs) (h3 : MGc C (.Name z p3) (gVar k) (gName k) vs) (hK : C.X.K = K := by rfl)
    (e1 : (assignEach [.Name y p2, .Name z p3] C.X.env).length = 2 := by rfl) (e2 : (assignEach [.Name y p2, .Name z p3] C.X.env).findIdx? (·.1) = none := by rfl)
    (e3 : (assignEach [.Name x p1, .Tuple [.Name y p2, .Name z p3] n1 p4] C.X.env).length = 2 := by rfl) (e4 : (assignEach [.Name x p1, .Tuple [.Name y p2, .Name z p3] n1 p4] C.X.env).findIdx? (·.1) = none := by rfl)
    (s1 : (assignEach [.Name x p1, .Tuple [.Name y p2, .Name z p3] n1 p4] C.X.env).map (·.2) = assign (.Name x p1) C.X.env :: (assignEach [.Tuple [.Name y p2, .Name z p3] n1 p4] C.X.env).map (·.2) := by rfl)
    (s2 : (assignEach [.Tuple [.Name y p2, .Name z p3] n1 p4] C.X.env).map (·.2) = assign (.Tuple [.Name y p2, .Name z p3] n1 p4) C.X.env :: (assignEach [] C.X.env).map (·.2) := by rfl)
    (s3 : (assignEach [.Name y p2, .Name z p3] C.X.env).map (·.2) = assign (.Name y p2) C.X.env :: (assignEach [.Name z p3] C.X.env).map (·.2) := by rfl)
    (s4 : (assignEach [.Name z p3] C.X.env).map (·.2) = assign (.Name z p3) C.X.env :: (assignEach [] C.X.env).map (·.2) := by rfl) :
    MGc C (.Tuple [.Name x p1, .Tuple [.Name y p2, .Name z p3] n1 p4] n2 p5) (gTup 2 (gCons (gVar i) (gCons (gTup 2 (gCons (gVar j) (gCons (gVar k) gNils))) gNils)))
      (L2.gTup K 2 (L2.gCons (gName i) (L2.gCons (L2.gTup K 2 (L2.gCons (gName j) (L2.gCons (gName k) L2.gNil))) L2.gNil))) vs := by
  subst hK
  have q1 : MGcs C [.Name z p3] (gCons (gVar k) gNils) (L2.gCons (gName k) L2.gNil) vs := mgcs_cons h3 mgcs_nil s4 mono_name
  have q2 : MGcs C [.Name y p2, .Name z p3] (gCons (gVar j) (gCons (gVar k) gNils)) (L2.gCons (gName j) (L2.gCons (gName k) L2.gNil)) vs := mgcs_cons h2 q1 s3 mono_name
  have q3 := mgc_tup (kk := n1) (pos := p4) (k := 2) hc q2 e1 e2
  have q4 := mgcs_cons q3 mgcs_nil s2 (mono_tup (mono_cons mono_name (mono_cons mono_name mono_nil)))
  have q5 := mgcs_cons h1 q4 s1 mono_name
  exact mgc_tup hc q5 e3 e4
/-- max(xs), min(xs) of a list of ints -/
def maxI : List Int → Int
  | [] => 0
  | [a] => a
  | a :: l => max a (maxI l)
def minI : List Int → Int
  | [] => 0
  | [a] => a
  | a :: l => min a (minI l)
theorem maxI_mem : ∀ {l : List Int}, 0 < l.length → maxI l ∈ l
  | [a], _ => by simp [maxI]
  | a :: b :: l, _ => by
    have := maxI_mem (l := b :: l) (by simp)
    rw [maxI]
    · rcases Int.le_total a (maxI (b :: l)) with h | h
      · rw [Int.max_eq_right h]; exact List.mem_cons_of_mem _ this
      · rw [Int.max_eq_left h]; simp
    · simp
theorem maxI_le : ∀ {l : List Int} {y : Int}, y ∈ l → y ≤ maxI l
  | [a], y, h => by simp at h; simp [maxI, h]
  | a :: b :: l, y, h => by
    rw [maxI]
    · rcases List.mem_cons.mp h with h | h
      · subst h; omega
      · have := maxI_le (l := b :: l) h; omega
    · simp
theorem minI_mem : ∀ {l : List Int}, 0 < l.length → minI l ∈ l
  | [a], _ => by simp [minI]
  | a :: b :: l, _ => by
    have := minI_mem (l := b :: l) (by simp)
    rw [minI]
    · rcases Int.le_total a (minI (b :: l)) with h | h
      · rw [Int.min_eq_left h]; simp
      · rw [Int.min_eq_right h]; exact List.mem_cons_of_mem _ this
    · simp
theorem minI_le : ∀ {l : List Int} {y : Int}, y ∈ l → minI l ≤ y
  | [a], y, h => by simp at h; simp [minI, h]
  | a :: b :: l, y, h => by
    rw [minI]
    · rcases List.mem_cons.mp h with h | h
      · subst h; omega
      · have := minI_le (l := b :: l) h; omega
    · simp
noncomputable def cMaxL (ds : List D) (h : AH) : ER := match ds with
  | [d] => (match listOf h d with
    | some es => (match intsOf es with
      | some ns => if 0 < ns.length then .ok (.int (maxI ns)) h else .stuck
      | none => .stuck)
    | none => .stuck)
  | _ => .stuck
noncomputable def cMinL (ds : List D) (h : AH) : ER := match ds with
  | [d] => (match listOf h d with
    | some es => (match intsOf es with
      | some ns => if 0 < ns.length then .ok (.int (minI ns)) h else .stuck
      | none => .stuck)
    | none => .stuck)
  | _ => .stuck
theorem cs_maxL : CallS C (L2.rMax C.X.K) cMaxL := by
  intro ι h H σ xs ds Q R r p
  unfold cMaxL at p
  split at p
  · rename_i d
    obtain ⟨v, rfl, q1⟩ := r.one
    split at p
    · rename_i es e
      split at p
      · rename_i ns e2
        split at p
        · rename_i hl
          obtain ⟨a, vs, rfl, s, rr⟩ := listOf_sq R q1 e
          rw [intsOf_eq e2] at rr
          rw [rr.ints] at s
          refine ⟨a, ns, rfl, s, hl, fun m hm hy => ?_⟩
          have : m = maxI ns := Int.le_antisymm (maxI_le hm) (hy _ (maxI_mem hl))
          rw [this]
          exact p.here R (RD.int.mpr rfl)
        · exact p.elim
      · exact p.elim
    · exact p.elim
  · exact p.elim
theorem cs_minL : CallS C (rMin C.X.K) cMinL := by
  intro ι h H σ xs ds Q R r p
  unfold cMinL at p
  split at p
  · rename_i d
    obtain ⟨v, rfl, q1⟩ := r.one
    split at p
    · rename_i es e
      split at p
      · rename_i ns e2
        split at p
        · rename_i hl
          obtain ⟨a, vs, rfl, s, rr⟩ := listOf_sq R q1 e
          rw [intsOf_eq e2] at rr
          rw [rr.ints] at s
          refine ⟨a, ns, rfl, s, hl, fun m hm hy => ?_⟩
          have : m = minI ns := Int.le_antisymm (hy _ (minI_mem hl)) (minI_le hm)
          rw [this]
          exact p.here R (RD.int.mpr rfl)
        · exact p.elim
      · exact p.elim
    · exact p.elim
  · exact p.elim
end
/-! enumerate over tuples and lists -/
def liveE (r n : Nat) : AIt := ⟨n, fun i h => match h[r]? with
  | some (.lst ds) => some (numD ds)[i]?
  | _ => none⟩
def iEnum2 (m : EM) : IM := fun e h => match m e h with
  | .ok (.tup ds) h1 => .ok (stat (numD ds)) h1
  | .ok (.ref r) h1 => (match h1[r]? with
    | some (.lst ds) => .ok (liveE r ds.length) h1
    | _ => .stuck)
  | .ok _ _ => .stuck
  | .exc c fs h1 => .exc c fs h1
  | .stuck => .stuck
section
variable {C : Ct} {a : Expr} {m : EM} {p pos tpos : Pos} {elts : List Expr} {kk : Nat}
theorem itr_enumL {K : PySem.W.Frag} {ι : Nat → Addr} {n : Nat} {H : Hp} {r m : Nat} (hr : r < n) : ItR K (Ite K (ι r)) (liveE r m) ι n H := by
  intro i ι' h' H' x R
  have eι := x.ag r hr
  unfold liveE
  dsimp only
  cases q : h'[r]? with
  | none => exact ⟨(fun z => nomatch z), (fun d z => nomatch z)⟩
  | some o =>
    cases o with
    | lst ds =>
      obtain ⟨vs, e1, rr⟩ := R.ob r _ q
      rw [eι] at e1
      refine ⟨fun e => ⟨vs, SqL.of e1, ?_⟩, fun d e => ?_⟩
      · have e := Option.some.inj e
        rw [numD_at] at e
        rw [← rr.length]
        refine List.getElem?_eq_none_iff.mp ?_
        cases hd : ds[i]? with
        | none => rfl
        | some d => rw [hd] at e; cases e
      · have e := Option.some.inj e
        rw [numD_at] at e
        cases hd : ds[i]? with
        | none => rw [hd] at e; cases e
        | some d0 =>
          rw [hd] at e
          cases e
          obtain ⟨v, ev, rv⟩ := rr.get hd
          refine ⟨⟨vs, v, SqL.of e1, ev⟩, fun y H2 hy => ?_⟩
          obtain ⟨T, x0, rfl, hT, rfl, hx⟩ := hy
          have e2 := hx vs (SqL.of e1)
          rw [ev] at e2
          cases e2
          have xx : Ext ι' h'.length H' ι' h'.length (upd H' T (.tup [.int (i : Nat), v])) := Ext.tup hT
          refine ⟨ι', xx, R.tup hT xx, RD.tup.mpr ⟨T, _, rfl, upd_same, ?_⟩⟩
          exact RDs.cons' (RD.int.mpr rfl) (RDs.cons' (rv.mono (xx.grow R)) RDs.nil')
    | dK _ => exact ⟨(fun z => nomatch z), (fun d z => nomatch z)⟩
    | dT _ => exact ⟨(fun z => nomatch z), (fun d z => nomatch z)⟩
    | lk _ _ _ => exact ⟨(fun z => nomatch z), (fun d z => nomatch z)⟩
theorem mi_enum2 (hm : C.X.mg "enumerate" = none) (ha : ME C a m) (hg : Gl C.X "enumerate" := by rfl) (hs : starEach [a] C.X.env = [(false, eval a C.X.env)] := by rfl) (na : starEach [a] C.X.env = (false, eval a C.X.env) :: starEach [] C.X.env := by rfl) :
    MI C (.Tuple elts kk tpos) (.Call (.Name "enumerate" p) [a] [] pos) (iEnum2 m) := by
  obtain ⟨t, pa, sa⟩ := ha
  refine ⟨_, PI.or (pi_enumT hg hm (pa_cons pa pa_nil na) hs) (pi_enum hg hm (pa_cons pa pa_nil na) hs), ⟨fun env h σ H ι Q R V p => ?_⟩⟩
  unfold iEnum2 at p
  cases hm : m env h with
  | exc c fs h1 =>
    rw [hm] at p
    refine .inl (sa.run env h σ H ι _ R V ?_)
    rw [hm]; exact p
  | stuck => rw [hm] at p; exact (show False from p).elim
  | ok d h1 =>
    rw [hm] at p
    cases d with
    | tup ds =>
      refine .inl (sa.run env h σ H ι _ R V ?_)
      rw [hm]
      refine fun ι' H' v x R' r => ?_
      obtain ⟨a, vs, rfl, s, rr⟩ := RD.tup.mp r
      exact ⟨a, vs, rfl, s, p.here x R' (itr_enumT R' s rr)⟩
    | ref r =>
      refine .inr (sa.run env h σ H ι _ R V ?_)
      rw [hm]
      refine fun ι' H' v x R' rr => ?_
      dsimp only at p
      cases hr : h1[r]? with
      | none => rw [hr] at p; exact (show False from p).elim
      | some o =>
        rw [hr] at p
        cases o with
        | lst ds =>
          have hlt := (List.getElem?_eq_some_iff.mp hr).1
          obtain ⟨vs, e1, e2, rs⟩ := rr.list R' hr
          exact ⟨_, vs, by rw [e1], SqL.of e2, p.here x R' (itr_enumL hlt)⟩
        | _ => exact (show False from p).elim
    | _ => exact (show False from p).elim
end
/-! a tuple some times -/
set_option maxHeartbeats 4000000 in
theorem tuple_mul1 (l : Addr) (items : Array Value) (n : Nat) (dd : Option Addr) (sl : Array (Option Value)) (u : Tok) :
    Meets (Builtin.«tuple.__mul__» ⟨[.ref l, .int 1 u], []⟩) (fun _ R s => s.heap.get? l = some { cls := .type "tuple", dict := dd, data := .seq items n, slots := sl } ∧ R (.ok (.ret (Value.ref l))) s) :=
  .of_wp fun prog w A R s h => by
    obtain ⟨hp, g, d, tk, os⟩ := s
    obtain ⟨hl, h⟩ := h
    have f1 := AutoSeq1.idx_int
    wp_walk using wpAny_loadPart' hl
    exact ⟨_, rfl, h⟩
def rRep1T (K : PySem.W.Frag) : R2 := fun x y H Q => ∃ l xs, x = .ref l ∧ y = .int 1 ∧ SqT K H l xs ∧ Q (.ref l) H
theorem op_rep1T {X : Cx} : OpR X (binaryOp .Mult) (rRep1T X.K) := by
  intro pins s σ H x y v u Q I rx ry h
  obtain ⟨l, xs, rfl, rfl, hT, q⟩ := h
  cases rx
  obtain ⟨t, rfl⟩ := ry
  obtain ⟨its, r, ⟨⟨cls, dd, data, sl⟩, ho, hc, n, hd⟩, hs⟩ := I.tuple hT
  simp only at hc hd
  subst hc hd
  refine wpAny_binaryOp_repeat_ref (T := "tuple") (U := "int") (by decide) ⟨_, ho, rfl⟩ (fun s' => typeIs_int s' 1 t) noFill_tuple_mul F.fills_int_mul F.slot_int_rmul repeat_tuple F.slot_int_index.lookup
    (call_meets F.slot_int_rmul (typeIs_int s 1 t) F.entry_int_rmul (F.args_int_rmul_2 _ _) (int_rmul_tuple 1 t l its.toArray n dd sl)
      ⟨ho, rfl, ⟨_, ho, rfl⟩, call_meets F.slot_tuple_mul ⟨_, ho, rfl⟩ F.entry_tuple_mul (F.args_tuple_mul_2 _ _) (tuple_mul1 l its.toArray n dd sl t) ⟨ho, ?_⟩⟩)
  exact ⟨.ref l, H, I, rfl, q⟩
def rRepT2 (K : PySem.W.Frag) : R2 := fun x y H Q => rRepT K x y H Q ∨ rRep1T K x y H Q
theorem op_repT2 {X : Cx} : OpR X (binaryOp .Mult) (rRepT2 X.K) := op_repT.or op_rep1T
def oMulT (a b : D) (h : AH) : ER := match a, b with
  | .tup ds, .int k => if k = 1 then .ok (.tup ds) h else if ds ≠ [] ∧ 2 ≤ k ∧ k ≤ 1000 ∧ ds.length ≤ 1000 then .ok (.tup (List.replicate k.toNat ds).flatten) h else .stuck
  | _, _ => .stuck
theorem os_repT {C : Ct} : OpS C (rRepT2 C.X.K) oMulT := by
  intro ι h H σ x y d1 d2 Q R r1 r2 p
  unfold oMulT at p
  split at p
  · rename_i ds k
    split at p
    · rename_i hk
      subst hk
      obtain ⟨a, vs, e, s, rr⟩ := RD.tup.mp r1
      refine .inr ⟨a, vs, e, RD.int.mp r2, s, ?_⟩
      rw [← e]
      exact p.here R r1
    · split at p
      · rename_i hl
        obtain ⟨a, vs, rfl, s, rr⟩ := RD.tup.mp r1
        have l1 := rr.length
        refine .inl ⟨a, k, vs, rfl, RD.int.mp r2, s, ?_, hl.2.1, hl.2.2.1, by rw [← l1]; exact hl.2.2.2, fun q hq => p.tup R (rr.rep _) hq⟩
        intro e
        subst e
        exact hl.1 (List.eq_nil_of_length_eq_zero (by simpa using l1))
      · exact p.elim
  · exact p.elim
end Rf

set_option maxHeartbeats 1000000
/-! raise X(..) of an own error with fields -/
namespace Rf
open PySem PySem.Spec PyProof.Rows L2
/-- what X(..)'s own __init__ does: the fields ns are set in this order -/
def spX (K : PySem.W.Frag) (D : Addr) (ns : List Str) : Sp := fun vs H Q _ => ∃ a C ws, vs = .ref a :: ws ∧ ws.length = ns.length ∧ SupC K C D ∧ (∀ g ∈ ns, PySem.W.findIn K (.ref C) g = some none) ∧ H a = some (exo a C none) ∧
  ∀ dx, H dx = none → dx ≠ a → Q .non (upd (upd H dx (exd dx (ns.zip ws).reverse)) a (exo a C (some dx)))
/-- __init__(self, fld): super().__init__(text); self.fld = fld -/
theorem init1 {CX : CXT} {P : Program} {w : World} {K : PySem.W.Frag} {mg : Str → Option Value} {base : Heap} {F : NdefX.NF} {f cc D : Addr} {k : Nat} {slf fld : Str} {doc pm ctv oc : Value} {od : Option Addr} {osl : Array (Option Value)} {pl : Sem Bool} {p0 p1 p2 p3 p4 p5 p6 p7 p8 p9 : Pos} {txt : Str} {kk : Nat}
    (lk : K.lookup f = some ⟨oc, od, .func (F.fd doc pm ctv), osl⟩) (W : SupK P K mg F f cc D slf) (S : NdefX.NScope [slf, fld, "__class__"] [slf, fld] ["__class__"] F.scope) (hno : PySem.W.nsIn K cStatics "thirdparty.any" = some none)
    (hbody : F.body = [.Expr (.Call (.Attribute (.Call (.Name "super" p0) [] [] p1) "__init__" p2) [.Constant (.str txt) kk p5] [] p3) p4, .Assign [.Attribute (.Name slf p6) fld p7] (.Name fld p8) p9])
    (he : ∀ L : Addr, eval (.Call (.Attribute (.Call (.Name "super" p0) [] [] p1) "__init__" p2) [.Constant (.str txt) kk p5] [] p3) (NdefX.envF F f L) = (do
      let ov ← attributeBase (.Call (.Name "super" p0) [] [] p1) "__init__" (NdefX.envF F f L) (eval (.Call (.Name "super" p0) [] [] p1) (NdefX.envF F f L))
      standAt p2.atName
      let (f', first) ← holding [ov] (getMethod ov "__init__" pl)
      callWith p3 f' first (backTo p3 (starEach [.Constant (.str txt) kk p5] (NdefX.envF F f L))) []))
    (hin0 : ∀ L : Addr, interactive (NdefX.envF F f L) = false)
    (hs : ∀ L : Addr, swapsWith (.Call (.Attribute (.Call (.Name "super" p0) [] [] p1) "__init__" p2) [.Constant (.str txt) kk p5] [] p3) none p4.line (NdefX.envF F f L) = pure false)
    (hs2 : ∀ L : Addr, swapsWith (.Name fld p8) (some (.Attribute (.Name slf p6) fld p7)) p9.line (NdefX.envF F f L) = pure false)
    (d1 : (slf == ("__debug__" : Str)) = false) (d2 : (slf == ("__classdict__" : Str)) = false) (d3 : (fld == ("__debug__" : Str)) = false) (d4 : (fld == ("__classdict__" : Str)) = false) :
    FnOk P w K mg base CX (k + 1) f (F.fd doc pm ctv) [slf, fld] (spX K D [fld]) := by
  refine fn_super lk W S rfl hno hbody (fun vs H Q E h => ?_) (fun vs H Q E h => ?_) he hin0 hs (fun A outer s H vs Q E hr h => ?_)
  · obtain ⟨a, C, ws, rfl, l, _⟩ := h
    simp [l]
  · obtain ⟨a, C, ws, rfl, l, SC, _, ea, _⟩ := h
    exact ⟨a, C, ws, rfl, SC, ea⟩
  · obtain ⟨a, C, ws, rfl, l, SC, fl, ea, q⟩ := h
    obtain ⟨v, rfl⟩ : ∃ v, ws = [v] := by
      cases ws with
      | nil => simp at l
      | cons v r => cases r with
        | nil => exact ⟨v, rfl⟩
        | cons _ _ => simp at l
    refine ⟨_, pss_one (ps_ost (pe_var (i := 0) rfl (.inl (S.par slf (by simp))) d1 d2) (pe_var (i := 1) rfl (.inl (S.par fld (by simp))) d3 d4) (hs2 _)), ?_⟩
    refine ⟨v, rfl, .ref a, rfl, a, C, rfl, SC.ox, fl fld (by simp), .inl ⟨ea, fun dx h1 h2 => ?_⟩⟩
    exact q dx h1 h2
theorem mk_endN {X : Cx} {pins : List (Addr × Obj)} {σ : L2.St} {H1 H2 : Hp} {Q : XK} {hp hp2 h2 : Heap} {g1 g2 : Array GenState} {d1 d2 : Drawn} {t1 t2 : Nat} {os1 os2 : OsState} {a C d : Addr} {fs : List (Str × V)} (T : Raises X (.ref C)) (I1 : Inv X pins σ H1 ⟨hp, g1, d1, t1, os1⟩)
    (ha : hp.objs.size ≤ a) (k : ∀ b o, hp.get? b = some o → hp2.get? b = some o) (un : Un (frs X.stack) [] (upd H1 a (exo a C none)) H2 hp2 h2) (hok : HOk X.prog X.w H2 h2) (ho : os2 = os1) (hb : AllBare g2)
    (ea : H2 a = some (exo a C (some d))) (ed : H2 d = some (exd d fs)) (hd1 : H1 d = none) (q : Q (.ref C) (some d) (upd (del H2 a) d (.xd fs))) : L2N.MkP X pins σ Q (.ref a) ⟨h2, g2, d2, t2, os2⟩ := by
  obtain ⟨t0, G, J, kG, ge, hoe, na⟩ := mk_end0 (d2 := d2) (t2 := t2) I1 ha k un hok ho hb ea ed hd1
  exact ⟨a, _, _, ⟨G, g2, d2, t2, os2⟩, _, .ref C, some d, rfl, J, kG, ge, hoe, ⟨rfl, rfl, fun vs e => by cases e; rfl⟩, rfl, rfl, na, rfl, hb, T, q⟩
/-- X(..) of an own error: its context is None -/
theorem pmk_oexN {X : Cx} {CX : CXT} {x : Str} {e : Expr} {es : List Expr} {ta : TA} {p pos : Pos} {C fI : Addr} {k : Nat} {fd : FuncData} {ps : List Str} {sp : Sp} (T : OexC X.K C) (iC : PySem.W.findIn X.K (.ref C) "__init__" = some (some (.ref fI))) (tI : PySem.W.typeIn X.K (.ref fI) = some (.type "function"))
    (F1 : FnOk X.prog X.w X.K X.mg X.base CX k fI fd ps sp) (hr : Room (k + 1) X.A) (hb : Binds X.K fd ps []) (hx : Passes CX X (fun _ _ _ => False)) (hg : Gl X x) (hm : X.mg x = some (.ref C)) (ha : PA X (e :: es) ta)
    (hdb : (x == ("__debug__" : Str)) = false := by decide) (he : starEach (e :: es) X.env = (false, eval e X.env) :: starEach es X.env := by rfl) (hpl : (backTo pos (starEach es X.env)).any (·.1) = false := by rfl) :
    L2N.PMk X (.Call (.Name x p) (e :: es) [] pos) (tMkO C sp [] ta) := by
  intro pins s σ H Q I h
  obtain ⟨nm, q, N, bs, bm, sn, sub, ab, col, dd, k0, k1, k2, k3, k5, hC, hbm⟩ := T.cls
  refine wpAny_Call_Name_kw (ld_glob I hg hm ?_ hdb)
  refine PySem.W.callWith_K (h₀ := X.base) I.ok.mod.kin T.kC (thn (ha.run pos pins s σ H _ I h) fun us s1 ⟨vs, H1, I1, r1, hz, q1⟩ => ⟨I1.kIn, ?_⟩) he hpl
  show wpAny _ _ (call (.ref C) us) _ _ _
  obtain ⟨hp, g, dr, tk, os⟩ := s1
  obtain ⟨b, hbdef⟩ : ∃ b, b = hp.objs.size + 1 := ⟨_, rfl⟩
  have hsz : hp.objs.size ≤ hp.objs.size + 1 := Nat.le_succ _
  have hq := q1 (hp.objs.size + 1) (I1.hok.fresh hsz)
  rw [List.append_nil] at hq
  have kk : ∀ b o, hp.get? b = some o → ((hp.push (PySem.W.kdv_tup us)).push (PySem.HandSPX.excO C hp.objs.size)).get? b = some o := fun b o e => Heap.get?_push_of_some _ (Heap.get?_push_of_some _ e)
  have hget : ((hp.push (PySem.W.kdv_tup us)).push (PySem.HandSPX.excO C hp.objs.size)).get? (hp.objs.size + 1) = some (PySem.HandSPX.excO C hp.objs.size) := by heap_get
  have I2 : Inv X pins σ (upd H1 (hp.objs.size + 1) (exo (hp.objs.size + 1) C none)) ⟨(hp.push (PySem.W.kdv_tup us)).push (PySem.HandSPX.excO C hp.objs.size), g, dr, tk, os⟩ := I1.laid (t' := tk) kk hsz (exo_ok hget)
  have r2 : Vals (V.ref (hp.objs.size + 1) :: vs) (Value.ref (hp.objs.size + 1) :: us) := .cons rfl r1
  have hl : (Value.ref (hp.objs.size + 1) :: us ++ []).length = ps.length := by rw [List.append_nil]; exact r2.length.symm.trans (F1.len _ _ _ _ hq)
  have b2 := hb _ (Value.ref (hp.objs.size + 1) :: us) I2.kIn hl
  rw [List.append_nil] at b2
  have hus : us.length ≤ sizeLine := by rw [← Paired.length r1, sizeLine_eq]; omega
  refine wpAny_call (PySem.HandSPX.call_own F.excBase_ValueError (fun Y => PySem.HandSPX.refsVE_contains Y bm hbm) (I1.kIn _ _ hC) (PySem.W.looks_findIn I1.kIn iC) (fun self => PySem.W.bind_fn I1.kIn self tI) hus
    (codeAny_mono (F1.run _ X.stack _ _ ⟨Value.ref (hp.objs.size + 1) :: us, []⟩ (Value.ref (hp.objs.size + 1) :: us) _ _ (fun _ _ _ => False) (hr.make C us []) (I2.env0.make C us []) b2 r2 hq) fun r s' hq' => ?_))
  match r, hq' with
  | .error er, hq' => exact hx pins σ _ _ er s' I2 hq'
  | .ok (.ret u), hq' =>
    obtain ⟨v, H2, os2, bare2, un2, hok2, rv, ev, d, fs, ea, ed, hd1, q2⟩ := hq'
    subst ev
    obtain ⟨h2, g2, d2, t2, os'⟩ := s'
    exact ⟨rv, mk_endN (raises_own T.exC T.tyC) I1 hsz kk un2 hok2 os2 bare2 ea ed hd1 q2⟩
  | .ok .next, hq' => exact False.elim hq'
  | .ok .brk, hq' => exact False.elim hq'
  | .ok .cont, hq' => exact False.elim hq'
def sRaise (x : Str) (ns : List Str) (ml : LM) : SM := fun env h => match ml env h with
  | .ok ds h1 => if ds.length = ns.length then .exc x (ns.zip ds).reverse env h1 else .stuck
  | .exc c fs h1 => .exc c fs env h1
  | .stuck => .stuck
section
variable {C : Ct} {e : Expr} {es : List Expr} {ml : LM}
theorem zip_snd {ns : List Str} {α : Type} : ∀ {ds : List α}, ds.length = ns.length → (ns.zip ds).map (·.2) = ds := by
  induction ns with
  | nil => intro ds h; cases ds with
    | nil => rfl
    | cons _ _ => simp at h
  | cons n ns ih => intro ds h; cases ds with
    | nil => simp at h
    | cons d ds => simp at h; simp [ih h]
theorem zip_fst {ns : List Str} {α : Type} : ∀ {ds : List α}, ds.length = ns.length → (ns.zip ds).map (·.1) = ns := by
  induction ns with
  | nil => intro ds h; cases ds with
    | nil => rfl
    | cons _ _ => simp at h
  | cons n ns ih => intro ds h; cases ds with
    | nil => simp at h
    | cons d ds => simp at h; simp [ih h]
theorem ms_raise {CX : CXT} {x : Str} {Cl Db fI : Addr} {k : Nat} {fd : FuncData} {ps ns : List Str} {p pos pos' : Pos} (hc : C.X.calm = true) (tk : L2N.Takes C.X C.W) (SC : SupC C.X.K Cl Db) (hfl : ∀ g ∈ ns, PySem.W.findIn C.X.K (.ref Cl) g = some none) (iC : PySem.W.findIn C.X.K (.ref Cl) "__init__" = some (some (.ref fI))) (tI : PySem.W.typeIn C.X.K (.ref fI) = some (.type "function"))
    (F1 : FnOk C.X.prog C.X.w C.X.K C.X.mg C.X.base CX k fI fd ps (spX C.X.K Db ns)) (hr : Room (k + 1) C.X.A) (hb : Binds C.X.K fd ps []) (hx : Passes CX C.X (fun _ _ _ => False)) (hm : C.X.mg x = some (.ref Cl)) (hl : ns.length ≤ 10) (ha : MA C (e :: es) ml) (hg : Gl C.X x := by rfl)
    (hdb : (x == ("__debug__" : Str)) = false := by decide) (he : starEach (e :: es) C.X.env = (false, eval e C.X.env) :: starEach es C.X.env := by rfl) (hpl : (backTo pos (starEach es C.X.env)).any (·.1) = false := by rfl) :
    MS C (.Raise (some (.Call (.Name x p) (e :: es) [] pos)) none pos') (sRaise x ns ml) := by
  obtain ⟨t, pa, s⟩ := ha
  refine ⟨_, L2N.ps_raise hc tk (pmk_oexN SC.ox iC tI F1 hr hb hx hg hm pa hdb he hpl), ⟨fun env h σ H ι D R V q => ?_⟩⟩
  refine s.run env h σ H ι _ R V ?_
  unfold sRaise at q
  cases hm2 : ml env h with
  | exc c fs h1 =>
    rw [hm2] at q
    exact fun ι' H' Cl' dd x' R' g xd => q ι' H' σ Cl' dd x' R' (V.ext R x') g xd
  | stuck => rw [hm2] at q; exact q
  | ok ds h1 =>
    rw [hm2] at q
    dsimp only at q
    by_cases hn : ds.length = ns.length
    · rw [if_pos hn] at q
      refine fun ι' H1 vs x' R' rr => ?_
      have lv : vs.length = ns.length := by rw [← rr.length]; exact hn
      refine ⟨by omega, fun a na => ?_⟩
      refine ⟨a, Cl, vs, by rw [List.append_nil], lv, SC, hfl, upd_same, fun dx hdx ne => ?_⟩
      have h1dx : H1 dx = none := by rw [upd_ne ne] at hdx; exact hdx
      refine ⟨rfl, dx, (ns.zip vs).reverse, upd_same, ?_, h1dx, ?_⟩
      · rw [upd_ne ne, upd_same]
      · have eH : upd (del (upd (upd (upd H1 a (exo a Cl none)) dx (exd dx (ns.zip vs).reverse)) a (exo a Cl (some dx))) a) dx (.xd (ns.zip vs).reverse) = upd H1 dx (.xd (ns.zip vs).reverse) := by
          funext b
          by_cases h1 : b = dx
          · rw [h1, upd_same, upd_same]
          · rw [upd_ne h1, upd_ne h1]
            by_cases h2 : b = a
            · rw [h2, del_same, na]
            · rw [del_ne h2, upd_ne h2, upd_ne h1, upd_ne h2]
        rw [eH]
        have xx : Ext ι' h1.length H1 ι' h1.length (upd H1 dx (.xd (ns.zip vs).reverse)) := Ext.tup h1dx
        have R2 := R'.tup h1dx xx
        refine q ι' _ σ Cl (some dx) (x'.trans xx) R2 (V.ext R (x'.trans xx)) hm ?_
        refine ⟨_, upd_same, ?_, ?_⟩
        · rw [List.map_reverse, List.map_reverse, zip_fst hn, zip_fst lv]
        · rw [List.map_reverse, List.map_reverse, zip_snd hn, zip_snd lv]
          exact RDs.rev (rr.mono (xx.grow R'))
    · rw [if_neg hn] at q; exact q.elim
end
end Rf

set_option maxHeartbeats 1000000
/-! try: .. except X as e: .. -/
namespace Rf
open PySem PySem.Spec PyProof.Rows L2
def canS (C : Ct) (m : SM) : TS := fun D σ H => ∃ env h ι, Rel C.X.K ι h H ∧ RV C ι h.length H env σ ∧ PostS C ι h.length H (m env h) D
theorem MB.can {C : Ct} {s : List Stmt} {m : SM} (h : MB C s m) : PSs C.X s (canS C m) := by
  obtain ⟨t, p, s⟩ := h
  exact ⟨fun pins st σ H D I ⟨env, h, ι, R, V, q⟩ => p.run pins st σ H D I (s.run env h σ H ι D R V q)⟩
/-- what stands behind the suite: its name is gone -/
def SR.gone (i : Nat) : SR → SR
  | .nx e h => .nx (e.set i none) h
  | .rt d h => .rt d h
  | .bk e h => .bk (e.set i none) h
  | .ct e h => .ct (e.set i none) h
  | _ => .stuck
/-- try: b, except X as slot i: hd, told the class and the fields of what is caught; caught c: X takes an error of the class c -/
def sTry (caught : Str → Option Bool) (i : Nat) (b : SM) (hd : Str → List (Str × D) → SM) : SM := fun env h => match b env h with
  | .exc c fs e1 h1 => (match caught c with
    | some true => if i < e1.length then (hd c fs (e1.set i none) h1).gone i else .stuck
    | some false => .exc c fs e1 h1
    | none => .stuck)
  | r => r
theorem ms_try {C : Ct} {x n : Str} {cv : Value} {i : Nat} {body suite : List Stmt} {b₀ : Stmt} {np pos pos' : Pos} {mb : SM} {mh : Str → List (Str × D) → SM} {caught : Str → Option Bool} (hea : C.ea = none)
    (hs : C.X.stack = C.X.env :: C.X.outer) (hf : C.X.env.frame = some C.X.env.locals) (hN : C.X.N.Nodup) (hi : C.X.N[i]? = some n) (hln : C.X.env.kindOf n = some .local) (hc : Names C.X x cv) (tk : L2N.Takes C.X C.W)
    (hcg : ∀ c b Cl, caught c = some b → C.X.mg c = some (.ref Cl) → PySem.W.exmOne C.X.K (.ref Cl) cv = some b)
    (hb : ∀ (W : WX) (pn : List (Addr × Obj)) (xe : Value → Shared → Prop), L2N.Takes (C.X.tr pn xe) W → PassesOwn (model C.X.prog C.X.w) C.X.A C.X.env xe → MB ⟨C.X.tr pn xe, W, none⟩ body mb)
    (hsu : ∀ (a : Addr) (oe : Obj) (Cl : Addr) (d : Option Addr) (pn : List (Addr × Obj)) (c : Str) (fs : List (Str × D)), L2N.Zn (.ref Cl) d oe → (∃ vs, oe.data = .fields vs) → C.X.mg c = some (.ref Cl) → caught c = some true → MB ⟨C.X.suite a ((a, oe) :: pn), fun _ _ _ _ => False, some ⟨i, a, Cl, c, d, fs⟩⟩ (b₀ :: suite) (mh c fs)) :
    MS C (.Try body [.ExceptHandler (some (.Name x np)) (some n) (b₀ :: suite) pos'] [] [] pos) (sTry caught i mb mh) := by
  refine ⟨_, L2N.ps_try_as (tb := fun W => canS ⟨C.X, W, none⟩ mb) (ts := fun a cls d D σ H => ∃ c Cl fs, cls = .ref Cl ∧ C.X.mg c = some (.ref Cl) ∧ caught c = some true ∧ canS ⟨C.X, fun _ _ _ _ => False, some ⟨i, a, Cl, c, d, fs⟩⟩ (mh c fs) D σ H)
    hs hf hN hi hln hc tk (fun W pn xe h1 h2 => (hb W pn xe h1 h2).can) (fun a oe cls d pn hz hv => ?_), ⟨fun env h σ H ι D R v0 q => ?_⟩⟩
  · refine ⟨fun pins s σ H D I ⟨c, Cl, fs, e1, hm, hcc, z⟩ => ?_⟩
    subst e1
    exact (hsu a oe Cl d pn c fs hz hv hm hcc).can.run pins s σ H D I z
  · have V0 : RV ⟨C.X, wAs C.X.K cv i (fun a cls d D σ H => ∃ c Cl fs, cls = .ref Cl ∧ C.X.mg c = some (.ref Cl) ∧ caught c = some true ∧ canS ⟨C.X, fun _ _ _ _ => False, some ⟨i, a, Cl, c, d, fs⟩⟩ (mh c fs) D σ H) C.W D, none⟩ ι h.length H env σ := ⟨v0.re, trivial⟩
    refine ⟨env, h, ι, R, V0, ?_⟩
    have back : ∀ {ι' : Nat → Addr} {n' : Nat} {H' : Hp} {e' : AE} {σ' : List (Option V)} {W : WX} {ea : Option ExI}, RV ⟨C.X, W, ea⟩ ι' n' H' e' σ' → RV C ι' n' H' e' σ' := fun v => ⟨v.re, by rw [hea]; trivial⟩
    unfold sTry at q
    cases hm : mb env h with
    | nx e1 h1 => rw [hm] at q; exact fun ι' H' σ' x' R' v => q ι' H' σ' x' R' (back v)
    | rt d h1 => rw [hm] at q; exact q
    | bk e1 h1 => rw [hm] at q; exact fun ι' H' σ' x' R' v => q ι' H' σ' x' R' (back v)
    | ct e1 h1 => rw [hm] at q; exact fun ι' H' σ' x' R' v => q ι' H' σ' x' R' (back v)
    | stuck => rw [hm] at q; exact q
    | exc c fs e1 h1 =>
      rw [hm] at q
      dsimp only at q
      intro ι' H' σ' Cl dd x' R' v hmg xd
      have vC := back v
      cases hcc : caught c with
      | none => rw [hcc] at q; exact q.elim
      | some b =>
        refine ⟨b, hcg c b Cl hcc hmg, fun hb1 a na => ?_, fun hb0 => ?_⟩
        · subst hb1
          rw [hcc] at q
          dsimp only at q
          have li : i < e1.length := by
            by_cases z : i < e1.length
            · exact z
            · rw [if_neg z] at q; exact q.elim
          rw [if_pos li] at q
          have ls : i < σ'.length := by rw [← v.re.len]; exact li
          refine ⟨c, Cl, fs, rfl, hmg, hcc, e1.set i none, h1, ι', R', ⟨v.re.forget i _, ?_⟩, ?_⟩
          · refine ⟨List.getElem?_set_self ls, fun d e => ?_, xd⟩
            rw [List.getElem?_set_self li] at e
            cases e
          · have fg : ∀ {ι2 : Nat → Addr} {n2 : Nat} {H2 : Hp} {e2 : AE} {σ2 : List (Option V)} {W : WX} {ea : Option ExI}, RV ⟨C.X, W, ea⟩ ι2 n2 H2 e2 σ2 → RV C ι2 n2 H2 (e2.set i none) (σ2.set i none) := fun v => ⟨v.re.forget i none, by rw [hea]; trivial⟩
            cases hh : mh c fs (e1.set i none) h1 with
            | nx e2 h2 => rw [hh] at q; exact fun ι2 H2 σ2 x2 R2 v2 => q ι2 H2 _ (x'.trans x2) R2 (fg v2)
            | rt d h2 => rw [hh] at q; exact fun ι2 H2 v x2 R2 r => q ι2 H2 v (x'.trans x2) R2 r
            | bk e2 h2 => rw [hh] at q; exact fun ι2 H2 σ2 x2 R2 v2 => q ι2 H2 _ (x'.trans x2) R2 (fg v2)
            | ct e2 h2 => rw [hh] at q; exact fun ι2 H2 σ2 x2 R2 v2 => q ι2 H2 _ (x'.trans x2) R2 (fg v2)
            | exc c2 fs2 e2 h2 => rw [hh] at q; exact q.elim
            | stuck => rw [hh] at q; exact q.elim
        · subst hb0
          rw [hcc] at q
          exact q ι' H' σ' Cl dd x' R' vC hmg xd
end Rf

set_option maxHeartbeats 4000000
/-! in an except suite: isinstance(e, Y) and e.f of an error with fields -/
namespace Rf
open PySem PySem.Spec PySem.Calls PyProof.Rows PySem.W
section
variable {prog : Program} {w : World} {A : Around} {E : Value → Shared → Prop} {s : Shared} {K : Frag} {x D : Addr} {ox : Obj} {odx : Option Obj}
theorem findObj_dataO {C : Addr} {name : Str} {a g : Value} (hc : (clsIn K C).isSome = true) (ha : findIn K (.ref C) name = some (some a)) (hg : specialIn K a "__get__" = some (some g)) (ht : takesIn K a = some true) : findObj K C odx name = some (.bind g a) := by
  obtain ⟨cd, hc⟩ := Option.isSome_iff_exists.mp hc
  unfold findObj
  rw [hc, Option.bind_some, ha, Option.bind_some]
  simp [hg, ht]
theorem kin_classF {Q : Option Value → Shared → Prop} (T : L2.ExcC K D) (X : K.In s.heap) (I : InstAt s.heap x ox D odx) (h : Q (some (.ref D)) { s with toks := s.toks + 1 }) : wpAny (model prog w) A (getAttr? (.ref x) "__class__") Q E s := by
  obtain ⟨hga, hgt, hsub, hdct, ha, hn, htk, hm⟩ := T
  have hf : findObj K D odx "__class__" = some (.bind (.builtin "getset_descriptor.__get__") (.builtin "object.__class__")) := findObj_dataO (by obtain ⟨cd, hc, _⟩ := any_some hdct; rw [hc]; rfl) ha hn htk
  obtain ⟨hp, g, d, t, os⟩ := s
  have L0 := I.type (M := model prog w)
  have L1 := looks_findIn (M := model prog w) X hga
  have L2 := looks_findIn (M := model prog w) X hgt
  have L3 := looks_find (M := model prog w) X I hf
  have sub : Looks (model prog w) hp (isInstance (.ref x) (.type "BaseException")) true := L0.andThen (looks_subIn X hsub)
  have hx0 : (false && onTheHeap (Value.builtin "BaseException.__getattribute__")) = false := rfl
  have hx2 : (Value.builtin "BaseException.__getattribute__" == Value.builtin "object.__getattribute__") = false := by decide +kernel
  have hx1 : (onTheHeap (Value.ref D) && Value.builtin "BaseException.__getattribute__" == Value.builtin "object.__getattribute__") = false := by rw [hx2]; rfl
  unfold getAttr? getAttrBy? getAttrBy
  refine wpAny_bind (wpAny_mkText (wpAny_bind (wpAny_attempt (wpAny_holding (wpAny_bind (L0.at (wpAny_bind (L1.at ?_))))))))
  show wpAny _ _ (if (onTheHeap (Value.ref D) && Value.builtin "BaseException.__getattribute__" == Value.builtin "object.__getattribute__") = true then _ else _) _ _ _
  rw [hx1, if_neg Bool.false_ne_true]
  unfold getAttrByItsOwn hookBefore
  refine wpAny_bind ?_
  rw [if_pos (show onTheHeap (Value.ref D) = true from rfl)]
  refine L2.at ?_
  refine wpAny_bind (wpAny_attempt (wpAny_holding ?_))
  unfold callGetattribute
  rw [hx0, if_neg Bool.false_ne_true]
  unfold boundAndCalled
  rw [PySem.F.excAttr_ValueError.ga.bind (.ref x)]
  refine wpAny_bind (wpAny_pure ?_)
  show wpAny _ _ (call (.builtin "BaseException.__getattribute__") [.ref x, .str "__class__" t]) _ _ _
  refine wpAny_call (codeAny_call_builtin PySem.F.excAttr_ValueError.ga.plain PySem.F.entry_bexc_ga ?_)
  refine @check_slot (model prog w) _ _ ⟨hp, g, d, t + 1, os⟩ "BaseException.__getattribute__" "BaseException" "__getattribute__" (.ref x) [.str "__class__" t] [] _ (by decide +kernel) (by decide +kernel) sub (PySem.F.args_bexc_ga (.ref x) (.str "__class__" t)) ?_
  unfold Builtin.«object.__getattribute__»
  refine wpAny_bind (wpAny_of_eq (a := ((Value.ref x : Value), [Value.str "__class__" t])) (by first | rfl | (simp only [slotArgs]; rfl)) ?_)
  refine wpAny_bind (wpAny_pure (wpAny_bind (L0.at (wpAny_bind (L3.at ?_)))))
  show wpAny _ _ (holding [Value.builtin "object.__class__"] (call (.builtin "getset_descriptor.__get__") [.builtin "object.__class__", .ref x, .ref D]) >>= ret) _ _ _
  refine wpAny_bind (wpAny_holding (wpAny_call (class_get (s := ⟨hp, g, d, t + 1, os⟩) (ox := ox) (od := odx) X I hm ?_)))
  refine wpAny_pure ?_
  show wpAny _ _ (handedOut (.ref D)) _ _ _
  rw [handedOut_of (v := .ref D) rfl]
  first
    | exact wpAny_pure (wpAny_pure h)
    | exact wpAny_pure h
    | exact wpAny_pure (wpAny_bind (wpAny_pure (wpAny_pure h)))

theorem kitF (T : L2.ExcC K D) : KitX K (.ref x) (.ref D) (fun h => ∃ odx, InstAt h x ox D odx) where
  ty := fun _ _ _ ⟨_, I⟩ => I.type
  it := fun _ _ X _ => by
    obtain ⟨cdD, hcD, _⟩ := any_some T.hd
    unfold clsIn at hcD
    split at hcD
    · rename_i c' d' cd' sl' ho
      intro A' Q' E' s' k q
      unfold isType loadHead
      exact wpAny_bind (wpAny_loadPart (k _ _ (X _ _ ho)) (wpAny_pure q))
    · cases hcD
  ne := (handS_kitx_exc (x := x) (ox := ox) T.hg T.hk T.hs T.hd T.ha T.hn T.ht T.hm).ne
  ca := fun X ⟨_, I⟩ k => kin_classF T X I k
end
end Rf
namespace Rf
open PySem PySem.Spec PyProof.Rows L2
def rIsF (K : PySem.W.Frag) (D a : Addr) (d : Option Addr) : List V → Hp → VK → Prop := fun xs H Q => ∃ (c : V) (cv : Value) (b : Bool), xs = [.ref a, c] ∧ (d = none ∨ ∃ dd fs, d = some dd ∧ H dd = some (.xd fs)) ∧ (∀ u, RelV c u → u = cv) ∧ PySem.W.kitOne K (.ref D) cv = some b ∧ Q (.bl b) H
theorem call_isF {X : Cx} {a D : Addr} {oe : Obj} {d : Option Addr} {pn : List (Addr × Obj)} (T : ExcC X.K D) (hz : Zc (.ref D) d oe) (hf : ∃ vs, oe.data = .fields vs) : CallR (X.suite a ((a, oe) :: pn)) (.builtin "isinstance") (rIsF X.K D a d) := by
  intro pins s σ H xs us Q I r h
  obtain ⟨c, cv, b, rfl, hd, hcv, e, q⟩ := h
  cases r with
  | cons rx rr =>
    cases rr with
    | cons rt rr =>
      cases rr
      cases rx
      have ec := hcv _ rt
      subst ec
      obtain ⟨hget, _⟩ := I.pin (a, oe) (List.mem_append.mpr (.inl List.mem_cons_self))
      obtain ⟨vs, hv⟩ := hf
      have hno : PySem.W.notCls oe = true := by unfold PySem.W.notCls; rw [hv] <;> rfl
      have J : ∃ odx, PySem.W.InstAt s.heap a oe D odx := by
        rcases hd with rfl | ⟨dd, fs, rfl, ed⟩
        · exact ⟨none, hget, hz.1, hno, by rw [hz.2]; trivial⟩
        · have hx : ObjOk X.prog X.w H s.heap dd (.xd fs) := I.hok dd _ ed
          obtain ⟨mA, hns, _⟩ := hx
          obtain ⟨od, _, _, ho, _⟩ := hns
          exact ⟨some od, hget, hz.1, hno, by rw [hz.2]; exact ho⟩
      exact PySem.W.kia_one (kitF T) I.kIn J e (fun z => nomatch z) fun tk => ⟨.bl b, H, I.kept (t' := tk) fun _ _ z => z, rfl, q⟩
end Rf

set_option maxHeartbeats 1000000
/-! the layer's expressions in an except suite: isinstance(e, Y), e.f -/
namespace Rf
open PySem PySem.Spec PyProof.Rows L2
/-- the context of an except suite: the error at a, of the class c at Cl, with the fields fs -/
abbrev Ct.sui (X : Cx) (a : Addr) (oe : Obj) (pn : List (Addr × Obj)) (i : Nat) (Cl : Addr) (c : Str) (d : Option Addr) (fs : List (Str × D)) : Ct := ⟨X.suite a ((a, oe) :: pn), fun _ _ _ _ => False, some ⟨i, a, Cl, c, d, fs⟩⟩
def eFld (f : Str) (fs : List (Str × D)) : EM := fun _ h => match fs.lookup f with
  | some d => .ok d h
  | none => .stuck
section
variable {X : Cx} {a Cl : Addr} {oe : Obj} {pn : List (Addr × Obj)} {i : Nat} {c n : Str} {d : Option Addr} {fs : List (Str × D)} {p p1 p2 p3 pos : Pos}
theorem xd_cases {K : PySem.W.Frag} {ι : Nat → Addr} {m : Nat} {H : Hp} (x : XD K ι m H d fs) : d = none ∨ ∃ dd ws, d = some dd ∧ H dd = some (.xd ws) := by
  cases d with
  | none => exact .inl rfl
  | some dd =>
    obtain ⟨ws, e, _⟩ := x
    exact .inr ⟨dd, ws, rfl, e⟩
theorem lookup_rel {K : PySem.W.Frag} {ι : Nat → Addr} {m : Nat} {H : Hp} {f : Str} {dv : D} : ∀ {fs : List (Str × D)} {ws : List (Str × V)}, fs.map (·.1) = ws.map (·.1) → RDs K ι m H (fs.map (·.2)) (ws.map (·.2)) → fs.lookup f = some dv → ∃ w, ws.lookup f = some w ∧ RD K ι m H dv w
  | [], _, _, _, e => by simp at e
  | (g, d) :: fs, [], k, _, _ => by simp at k
  | (g, d) :: fs, (g', w) :: ws, k, r, e => by
    simp only [List.map_cons, List.cons.injEq] at k
    obtain ⟨rfl, k⟩ := k
    obtain ⟨v, vs, e1, r1, r2⟩ := RDs.cons.mp r
    simp only [List.map_cons, List.cons.injEq] at e1
    obtain ⟨rfl, rfl⟩ := e1
    rw [List.lookup_cons] at e ⊢
    by_cases q : f = g
    · subst q
      simp only [beq_self_eq_true, if_true] at e ⊢
      cases e
      exact ⟨w, rfl, r1⟩
    · have q' : (f == g) = false := by simpa using q
      rw [q'] at e ⊢
      exact lookup_rel k r2 e
theorem me_isE {y : Str} {cv : Value} {v : V} {b : Bool} (hz : Zc (.ref Cl) d oe) (hf : ∃ vs, oe.data = .fields vs) (T : ExcC X.K Cl) (hi : X.N[i]? = some n) (hv : Vis X.env.scope n) (hm : X.mg "isinstance" = none) (hy : PE (X.suite a ((a, oe) :: pn)) (.Name y p3) (tC v)) (hcv : ∀ u, RelV v u → u = cv) (hk : PySem.W.kitOne X.K (.ref Cl) cv = some b)
    (hd1 : (n == ("__debug__" : Str)) = false := by decide) (hd2 : (n == ("__classdict__" : Str)) = false := by decide) (hg : Gl X "isinstance" := by rfl) :
    ME (Ct.sui X a oe pn i Cl c d fs) (.Call (.Name "isinstance" p) [.Name n p2, .Name y p3] [] pos) (eC (.bl b)) := by
  refine ⟨_, pe_callB (call_isF T hz hf) hg hm (by decide +kernel) (pa_cons (pe_var hi hv hd1 hd2) (pa_cons hy pa_nil)) (by decide) (by decide) rfl rfl, ⟨fun env h σ H ι Q R v0 q => ?_⟩⟩
  have q : PostE (Ct.sui X a oe pn i Cl c d fs) ι h.length H σ (.ok (.bl b) h) Q := q
  obtain ⟨e1, e2, e3⟩ : σ[i]? = some (some (.ref a)) ∧ (∀ d, env[i]? ≠ some (some d)) ∧ XD X.K ι h.length H d fs := v0.ea
  exact ⟨.ref a, e1, v, cv, b, rfl, xd_cases e3, hcv, hk, q ι H _ .refl R (RD.bl.mpr rfl)⟩
theorem me_fld {f : Str} (hz : Zc (.ref Cl) d oe) (hf : ∃ vs, oe.data = .fields vs) (T : XfC X.K Cl) (hno : PySem.W.findIn X.K (.ref Cl) f = some none) (hi : X.N[i]? = some n) (hv : Vis X.env.scope n)
    (hd1 : (n == ("__debug__" : Str)) = false := by decide) (hd2 : (n == ("__classdict__" : Str)) = false := by decide) (hb : attributeBase (.Name n p) f X.env (eval (.Name n p) X.env) = eval (.Name n p) X.env := by rfl) :
    ME (Ct.sui X a oe pn i Cl c d fs) (.Attribute (.Name n p) f pos) (eFld f fs) := by
  refine ⟨_, pe_xf T hno hz hf (pe_var hi hv hd1 hd2) hb, ⟨fun env h σ H ι Q R v0 q => ?_⟩⟩
  obtain ⟨e1, e2, e3⟩ : σ[i]? = some (some (.ref a)) ∧ (∀ d, env[i]? ≠ some (some d)) ∧ XD X.K ι h.length H d fs := v0.ea
  unfold eFld at q
  cases hl : fs.lookup f with
  | none => rw [hl] at q; exact q.elim
  | some dv =>
    rw [hl] at q
    cases d with
    | none =>
      have : fs = [] := e3
      subst this
      simp at hl
    | some dd =>
      obtain ⟨ws, w1, w2, w3⟩ := e3
      obtain ⟨w, l, r⟩ := lookup_rel w2 w3 hl
      exact ⟨.ref a, e1, rfl, rfl, dd, ws, w, rfl, w1, l, q ι H w .refl R r⟩
end
end Rf

set_option maxHeartbeats 1000000
/-! in an except suite: isinstance(e, (X, Y, ..)) -/
namespace Rf
open PySem PySem.Spec PyProof.Rows L2
def rIsFT (K : PySem.W.Frag) (D a : Addr) (d : Option Addr) : List V → Hp → VK → Prop := fun xs H Q => ∃ (tp : Addr) (cs : List V) (cvs : List Value) (b : Bool), xs = [.ref a, .ref tp] ∧ (d = none ∨ ∃ dd fs, d = some dd ∧ H dd = some (.xd fs)) ∧ SqT K H tp cs ∧ (∀ us, Vals cs us → us = cvs) ∧
  PySem.W.kitAny K (.ref D) cvs = some b ∧ Q (.bl b) H
theorem call_isFT {X : Cx} {a D : Addr} {oe : Obj} {d : Option Addr} {pn : List (Addr × Obj)} (T : ExcC X.K D) (hz : Zc (.ref D) d oe) (hf : ∃ vs, oe.data = .fields vs) : CallR (X.suite a ((a, oe) :: pn)) (.builtin "isinstance") (rIsFT X.K D a d) := by
  intro pins s σ H xs us Q I r h
  obtain ⟨tp, cs, cvs, b, rfl, hd, hT, hcv, e, q⟩ := h
  cases r with
  | cons rx rr =>
    cases rr with
    | cons rt rr =>
      cases rr
      cases rx
      cases rt
      obtain ⟨its, r, ⟨⟨cls, dd0, data, sl⟩, ho, hc, n, hdt⟩, _⟩ := I.tuple hT
      simp only at hc hdt
      subst hc hdt
      have ei := hcv _ r
      subst ei
      obtain ⟨hget, _⟩ := I.pin (a, oe) (List.mem_append.mpr (.inl List.mem_cons_self))
      obtain ⟨vs, hv⟩ := hf
      have hno : PySem.W.notCls oe = true := by unfold PySem.W.notCls; rw [hv] <;> rfl
      have J : ∃ odx, PySem.W.InstAt s.heap a oe D odx := by
        rcases hd with rfl | ⟨dd, fs, rfl, ed⟩
        · exact ⟨none, hget, hz.1, hno, by rw [hz.2]; trivial⟩
        · have hx : ObjOk X.prog X.w H s.heap dd (.xd fs) := I.hok dd _ ed
          obtain ⟨mA, hns, _⟩ := hx
          obtain ⟨od, _, _, ho, _⟩ := hns
          exact ⟨some od, hget, hz.1, hno, by rw [hz.2]; exact ho⟩
      exact PySem.W.kia_tup (kitF T) I.kIn J ho e (fun z => nomatch z) fun tk => ⟨.bl b, H, I.kept (t' := tk) fun _ _ z => z, rfl, q⟩
section
variable {X : Cx} {a Cl : Addr} {oe : Obj} {pn : List (Addr × Obj)} {i : Nat} {c n : Str} {d : Option Addr} {fs : List (Str × D)} {p p1 p2 p3 pos : Pos}
theorem me_isET {ys : List Expr} {t : TA} {x1 : Nat} {cvs : List Value} {cs : List V} {b : Bool} (hz : Zc (.ref Cl) d oe) (hf : ∃ vs, oe.data = .fields vs) (T : ExcC X.K Cl) (hi : X.N[i]? = some n) (hv : Vis X.env.scope n) (hm : X.mg "isinstance" = none) (hy : PA (X.suite a ((a, oe) :: pn)) ys t)
    (ht : ∀ σ H Q, Q cs H → t σ H Q) (hl : cs.length ≤ 100) (hcv : ∀ us, Vals cs us → us = cvs) (hk : PySem.W.kitAny X.K (.ref Cl) cvs = some b)
    (hd1 : (n == ("__debug__" : Str)) = false := by decide) (hd2 : (n == ("__classdict__" : Str)) = false := by decide) (hg : Gl X "isinstance" := by rfl) :
    ME (Ct.sui X a oe pn i Cl c d fs) (.Call (.Name "isinstance" p) [.Name n p2, .Tuple ys x1 p3] [] pos) (eC (.bl b)) := by
  refine ⟨_, pe_callB (call_isFT T hz hf) hg hm (by decide +kernel) (pa_cons (pe_var hi hv hd1 hd2) (pa_cons (pe_tup hy) pa_nil)) (by decide) (by decide) rfl rfl, ⟨fun env h σ H ι Q R v0 q => ?_⟩⟩
  have q : PostE (Ct.sui X a oe pn i Cl c d fs) ι h.length H σ (.ok (.bl b) h) Q := q
  obtain ⟨e1, e2, e3⟩ : σ[i]? = some (some (.ref a)) ∧ (∀ d, env[i]? ≠ some (some d)) ∧ XD X.K ι h.length H d fs := v0.ea
  refine ⟨.ref a, e1, ht _ _ _ ⟨by rw [sizeLine_eq]; omega, fun tp hp => ?_⟩⟩
  have xx : Ext ι h.length H ι h.length (upd H tp (.tup cs)) := Ext.tup hp
  refine ⟨tp, cs, cvs, b, rfl, ?_, .inl (.inl upd_same), hcv, hk, q ι _ _ xx (R.tup hp xx) (RD.bl.mpr rfl)⟩
  rcases xd_cases e3 with h1 | ⟨dd, ws, h1, h2⟩
  · exact .inl h1
  · refine .inr ⟨dd, ws, h1, ?_⟩
    rw [upd_ne (ne_of_none h2 hp)]; exact h2
end
end Rf

set_option maxHeartbeats 1000000
/-! what the written part says of an own error of one field, in one place -/
namespace Rf
open PySem PySem.Spec PyProof.Rows L2
structure ErrC (P : Program) (K : PySem.W.Frag) (mg : Str → Option Value) (x : Str) (Cl fI : Addr) (fd : FuncData) (slf fld : Str) : Prop where
  mgx : mg x = some (.ref Cl)
  sc : SupC K Cl Cl
  fl : PySem.W.findIn K (.ref Cl) fld = some none
  iC : PySem.W.findIn K (.ref Cl) "__init__" = some (some (.ref fI))
  tI : PySem.W.typeIn K (.ref fI) = some (.type "function")
  bd : Binds K fd [slf, fld] []
  ok : ∀ (w : World) (base : Heap) (CX : CXT), FnOk P w K mg base CX 1 fI fd [slf, fld] (spX K Cl [fld])
  ec : ExcC K Cl
  xf : XfC K Cl
theorem ms_raiseE {C : Ct} {e : Expr} {ml : LM} {x : Str} {Cl fI : Addr} {fd : FuncData} {slf fld : Str} {p pos pos' : Pos} (EC : ErrC C.X.prog C.X.K C.X.mg x Cl fI fd slf fld) (hc : C.X.calm = true) (tk : L2N.Takes C.X C.W) (hr : Room 2 C.X.A) (ha : MA C [e] ml) (hg : Gl C.X x := by rfl)
    (hdb : (x == ("__debug__" : Str)) = false := by decide) (he : starEach [e] C.X.env = (false, eval e C.X.env) :: starEach [] C.X.env := by rfl) (hpl : (backTo pos (starEach [] C.X.env)).any (·.1) = false := by rfl) :
    MS C (.Raise (some (.Call (.Name x p) [e] [] pos)) none pos') (sRaise x [fld] ml) :=
  ms_raise (ns := [fld]) (k := 1) hc tk EC.sc (fun g hg => by rw [List.mem_singleton.mp hg]; exact EC.fl) EC.iC EC.tI (EC.ok C.X.w C.X.base (fun _ _ _ _ _ _ => False)) hr EC.bd (fun _ _ _ _ _ _ _ z => z.elim) EC.mgx (by simp) ha hg hdb he hpl
end Rf

set_option maxHeartbeats 1000000
/-! reversed(x) of a list or a tuple; i ^ j -/
namespace Rf
open PySem PySem.Spec PyProof.Rows L2 RT
def liveR (r n : Nat) : AIt := ⟨n, fun i h => if n ≤ i then some none else match h[r]? with
  | some (.lst ds) => (match ds[n - 1 - i]? with
    | some d => some (some d)
    | none => none)
  | _ => none⟩
def iRev (m : EM) : IM := fun e h => match m e h with
  | .ok (.tup ds) h1 => .ok (stat ds.reverse) h1
  | .ok (.ref r) h1 => (match h1[r]? with
    | some (.lst ds) => .ok (liveR r ds.length) h1
    | _ => .stuck)
  | .ok _ _ => .stuck
  | .exc c fs h1 => .exc c fs h1
  | .stuck => .stuck
def eTupRev (m : EM) : EM := fun env h => (m env h).then fun d h1 => match listOf h1 d with
  | some ds => .ok (.tup ds.reverse) h1
  | none => .stuck
section
variable {C : Ct} {tg a : Expr} {m : EM} {p pos p2 pos2 : Pos} {K : PySem.W.Frag} {ι : Nat → Addr} {n : Nat} {h : AH} {H : Hp} {ds : List D} {vs : List V} {ad : Addr}
theorem itr_revT (R0 : Rel K ι h H) (q : SqT K H ad vs) (r : RDs K ι h.length H ds vs) : ItR K (ItvT K ad vs.length) (stat ds.reverse) ι h.length H := by
  have ln := r.length
  refine itr_stat fun i ι' h' H' x R => ⟨fun e => ?_, fun d e => ?_⟩
  · have := List.getElem?_eq_none_iff.mp e
    rw [List.length_reverse] at this
    show vs.length ≤ i
    omega
  · have hi : i < ds.length := by
      have := (List.getElem?_eq_some_iff.mp e).1
      rwa [List.length_reverse] at this
    rw [List.getElem?_reverse hi] at e
    obtain ⟨v, ev, rv⟩ := r.get e
    rw [ln] at ev
    refine ⟨⟨by omega, vs, v, R0.sqT x q, ev⟩, fun y H2 hy => ?_⟩
    obtain ⟨rfl, hy⟩ := hy
    have e2 := hy vs (R0.sqT x q)
    rw [ev] at e2; cases e2
    exact ⟨ι', .refl, R, rv.mono (x.grow R0)⟩
theorem itr_revL {r mm : Nat} (hr : r < n) : ItR K (Itv K (ι r) mm) (liveR r mm) ι n H := by
  intro i ι' h' H' x R
  have eι := x.ag r hr
  unfold liveR
  dsimp only
  by_cases hi : mm ≤ i
  · rw [if_pos hi]
    exact ⟨fun _ => hi, fun d z => nomatch z⟩
  · rw [if_neg hi]
    cases q : h'[r]? with
    | none => exact ⟨(fun z => nomatch z), (fun d z => nomatch z)⟩
    | some o =>
      cases o with
      | lst ds =>
        dsimp only
        obtain ⟨vs, e1, rr⟩ := R.ob r _ q
        rw [eι] at e1
        cases hd : ds[mm - 1 - i]? with
        | none => exact ⟨(fun z => nomatch z), (fun d z => nomatch z)⟩
        | some d0 =>
          refine ⟨(fun z => nomatch z), fun d e => ?_⟩
          have e := Option.some.inj (Option.some.inj e)
          subst e
          obtain ⟨v, ev, rv⟩ := rr.get hd
          refine ⟨⟨by omega, vs, v, SqL.of e1, ev⟩, fun y H2 hy => ?_⟩
          obtain ⟨rfl, hy⟩ := hy
          have e2 := hy vs (SqL.of e1)
          rw [ev] at e2; cases e2
          exact ⟨ι', .refl, R, rv⟩
      | dK _ => exact ⟨(fun z => nomatch z), (fun d z => nomatch z)⟩
      | dT _ => exact ⟨(fun z => nomatch z), (fun d z => nomatch z)⟩
      | lk _ _ _ => exact ⟨(fun z => nomatch z), (fun d z => nomatch z)⟩
theorem mi_rev (hm : C.X.mg "reversed" = none) (ha : ME C a m) (hg : Gl C.X "reversed" := by rfl) (hs : starEach [a] C.X.env = (false, eval a C.X.env) :: starEach [] C.X.env := by rfl) : MI C tg (.Call (.Name "reversed" p) [a] [] pos) (iRev m) := by
  obtain ⟨t, pa, sa⟩ := ha
  refine ⟨_, pi_revA hg hm pa hs, ⟨fun env h σ H ι Q R V p => ?_⟩⟩
  refine sa.run env h σ H ι _ R V ?_
  unfold iRev at p
  cases hm : m env h with
  | exc c fs h1 => rw [hm] at p; exact p
  | stuck => rw [hm] at p; exact p
  | ok d h1 =>
    rw [hm] at p
    cases d with
    | tup ds =>
      refine fun ι' H' v x R' r => ?_
      obtain ⟨a, vs, rfl, s, rr⟩ := RD.tup.mp r
      exact ⟨a, vs, rfl, .inr ⟨s, p.here x R' (itr_revT R' s rr)⟩⟩
    | ref r =>
      refine fun ι' H' v x R' rr => ?_
      dsimp only at p
      cases hr : h1[r]? with
      | none => rw [hr] at p; exact (show False from p).elim
      | some o =>
        rw [hr] at p
        cases o with
        | lst ds =>
          have hlt := (List.getElem?_eq_some_iff.mp hr).1
          obtain ⟨vs, e1, e2, rs⟩ := rr.list R' hr
          have ln := rs.length
          refine ⟨_, vs, by rw [e1], .inl ⟨SqL.of e2, ?_⟩⟩
          rw [← ln]
          exact p.here x R' (itr_revL hlt)
        | _ => exact (show False from p).elim
    | _ => exact (show False from p).elim
theorem me_tupRev (hc : C.X.calm = true) (hm : C.X.mg "tuple" = none) (hm2 : C.X.mg "reversed" = none) (ha : ME C a m) (hg : Gl C.X "tuple" := by rfl) (hg2 : Gl C.X "reversed" := by rfl) (hs : starEach [a] C.X.env = (false, eval a C.X.env) :: starEach [] C.X.env := by rfl)
    (hs2 : starEach [.Call (.Name "reversed" p2) [a] [] pos2] C.X.env = (false, eval (.Call (.Name "reversed" p2) [a] [] pos2) C.X.env) :: starEach [] C.X.env := by rfl) :
    ME C (.Call (.Name "tuple" p) [.Call (.Name "reversed" p2) [a] [] pos2] [] pos) (eTupRev m) := by
  obtain ⟨t, pa, sa⟩ := ha
  refine ⟨_, pe_tupRev hc hg hm hg2 hm2 pa hs hs2, ⟨fun env h σ H ι Q R V q => ?_⟩⟩
  refine sa.then R V q fun d h1 ι1 H1 v x1 R1 V1 r1 p1 => ?_
  split at p1
  · rename_i ds e
    obtain ⟨a, vs, rfl, s, rr⟩ := listOf_sq R1 r1 e
    exact ⟨a, vs, rfl, s, fun q hq => p1.tup R1 (RDs.rev rr) hq⟩
  · exact p1.elim
def oXor (a b : D) (h : AH) : ER := match a, b with
  | .int i, .int j => .ok (.int (Builtin.bitXor i j)) h
  | _, _ => .stuck
theorem os_xor : OpS C (rI0 fun i j => .int (Builtin.bitXor i j)) oXor := by
  intro ι h H σ x y d1 d2 Q R r1 r2 p
  unfold oXor at p
  split at p
  · rename_i i j
    exact ⟨i, j, RD.int.mp r1, RD.int.mp r2, p.here R (RD.int.mpr rfl)⟩
  · exact p.elim
end
end Rf

set_option maxHeartbeats 1000000
/-! a.join(texts); a constant of the module -/
namespace Rf
open PySem PySem.Spec PyProof.Rows L2
def JoinOk (a : Str) (ys : List Str) : Prop := (ys.map (·.length)).sum + ys.length * a.length ≤ 16777216
noncomputable instance {a : Str} {ys : List Str} : Decidable (JoinOk a ys) := Classical.propDecidable _
noncomputable def oJoin (a : Str) (x : D) (h : AH) : ER := match seqOf h x with
  | some ds => (match strsOf ds with
    | some ys => if JoinOk a ys then .ok (.str (Txt.join a ys)) h else .stuck
    | none => .stuck)
  | _ => .stuck
noncomputable def eJoin (mo me : EM) : EM := fun env h => (mo env h).then fun d h1 => match d with
  | .str a => (me env h1).then fun x h2 => oJoin a x h2
  | _ => .stuck
section
variable {C : Ct} {o e : Expr} {mo me : EM} {apos pos : Pos}
theorem me_join (ho : ME C o mo) (he : ME C e me) (hs : starEach [e] C.X.env = [(false, eval e C.X.env)] := by rfl) (hbase : attributeBase o "join" C.X.env (eval o C.X.env) = eval o C.X.env := by rfl) (hline : (apos.endLine == pos.line) = true := by rfl) :
    ME C (.Call (.Attribute o "join" apos) [e] [] pos) (eJoin mo me) := by
  obtain ⟨to, po, so⟩ := ho
  obtain ⟨te, pe, se⟩ := he
  refine ⟨_, pe_join po pe hs hbase hline, ⟨fun env h σ H ι Q R V q => ?_⟩⟩
  refine so.then R V q fun d h1 ι1 H1 v x1 R1 V1 r1 p1 => ?_
  cases d with
  | str a =>
    refine ⟨⟨a, RD.str.mp r1⟩, ?_⟩
    refine se.then R1 V1 p1 fun x h2 ι2 H2 u x2 R2 V2 r2 p2 => ?_
    unfold oJoin at p2
    split at p2
    · rename_i ds hd
      split at p2
      · rename_i ys e1
        split at p2
        · rename_i hj
          obtain ⟨b, vs, rfl, s, rr⟩ := seqOf_sq R2 r2 hd
          rw [strsOf_eq e1] at rr
          rw [rr.strs] at s
          exact ⟨a, b, ys, RD.str.mp r1, rfl, s, hj, p2.here R2 (RD.str.mpr rfl)⟩
        · exact p2.elim
      · exact p2.elim
    · exact p2.elim
  | _ => exact (show False from p1).elim
theorem me_glob {x : Str} {i : Int} {tk : Tok} (hm : C.X.mg x = some (.int i tk)) (hg : Gl C.X x := by rfl) (hd : (x == ("__debug__" : Str)) = false := by decide) : ME C (.Name x pos) (eC (.int i)) :=
  ⟨_, pe_glob (v := .int i) hg hm ⟨_, rfl⟩ hd, ⟨fun env h σ H ι Q R V q => by
    have q : PostE C ι h.length H σ (.ok (.int i) h) Q := q
    exact q ι H _ .refl R (RD.int.mpr rfl)⟩⟩
end
end Rf

set_option maxHeartbeats 1000000
/-! a call by names alone -/
namespace Rf
open PySem PySem.Spec PyProof.Rows L2
section
variable {C : Ct} {k pl km : Nat} {f : Addr} {fd : FuncData} {ps ks : List Str} {F : List D → AH → ER} {x : Str} {p pos : Pos} {kws : List Keyword} {mk : LM} {idx : List Nat}
theorem me_callK0 (F0 : FnOk C.X.prog C.X.w C.X.K C.X.mg C.X.base (L2N.CX C.X.prog C.X.w) k f fd ps (spF C.X.K C.X.mg pl F)) (hr : Room k C.X.A) (hm : C.X.mg x = some (.ref f)) (hk : PySem.W.keepIn C.X.K (.ref f) = true) (hb : KBn C.X.K fd ps 0 ks (permK idx) (permK idx)) (tk : L2N.Takes C.X C.W)
    (hw : MK C kws mk) (hpl2 : ∀ us ws : List D, us.length = 0 → ws.length = km → (permK idx us ws).length = pl) (hkm : ks.length = km := by rfl)
    (hall : (backToKw pos (keywordEach kws C.X.env)).all (·.1.isSome) = true := by rfl) (hks : (backToKw pos (keywordEach kws C.X.env)).filterMap (·.1) = ks := by rfl) (hg : Gl C.X x := by rfl) (hdb : (x == ("__debug__" : Str)) = false := by decide)
    (hpl : ((backTo pos (starEach [] C.X.env)).any (·.1) || (backToKw pos (keywordEach kws C.X.env)).any (·.1.isNone)) = false := by rfl) :
    ME C (.Call (.Name x p) [] kws pos) (eCallK 0 km idx F lNil mk) := by
  subst hkm
  obtain ⟨t2, pk, s2⟩ := hw
  refine ⟨fun σ H Q => tCallN 0 ks.length (spF C.X.K C.X.mg pl F) (permK idx) (WE C.W σ) tNil t2 σ H Q, ⟨fun pins s0 σ H Q I h => ?_⟩, ⟨fun env h σ H ι Q R V q => ?_⟩⟩
  · refine wpAny_Call_Name_kw (ld_glob (x := x) I hg hm ?_ hdb)
    refine PySem.W.callWith_KW0 (h₀ := C.X.base) I.ok.mod.kin hk hall (thn (pk.run pos pins s0 σ H _ I h) fun ws s2 h2 => ?_) hpl
    obtain ⟨zs, H2, I2, rz, l1, l2, q2⟩ := h2
    refine ⟨I2.kIn, ?_⟩
    rw [hks]
    exact runK F0 hr hb (L2N.passAt tk σ) I2 .nil rz l1 l2 q2
  · refine s2.run env h σ H ι _ R V ?_
    have q1 : PostE C ι h.length H σ ((mk env h).then fun es h2 => if ([] : List D).length = 0 ∧ es.length = ks.length then F (permK idx [] es) h2 else .stuck) Q := q
    cases hm2 : mk env h with
    | ok es h2 =>
      rw [hm2] at q1
      refine fun ι2 H2 zs x2 R2 r2 => ?_
      have q2 : PostE C ι h.length H σ (if ([] : List D).length = 0 ∧ es.length = ks.length then F (permK idx [] es) h2 else .stuck) Q := q1
      by_cases hd : ([] : List D).length = 0 ∧ es.length = ks.length
      · rw [if_pos hd] at q2
        have r3 := permK_RDs (ds := []) (vs := []) RDs.nil' r2 idx
        refine ⟨rfl, by rw [← r2.length]; exact hd.2, ?_⟩
        exact spF.of R2 r3 (by rw [← r3.length]; exact hpl2 _ _ hd.1 hd.2) (PostE.shift q2 x2)
      · rw [if_neg hd] at q2; exact q2.elim
    | exc c fs h2 =>
      rw [hm2] at q1
      exact fun ι2 H2 Cl dd x2 => q1 ι2 H2 Cl dd x2
    | stuck => rw [hm2] at q1; exact q1
end
end Rf

/-! printed defs with exceptions: which class was caught, which classes a tuple holds -/
namespace Rf
open PySem PySem.Spec PyProof.Rows L2
theorem caught_cases {c n : Str} {b d : Bool} {l : List (Str × Bool)} (h : ((n, d) :: l).lookup c = some b) : (c = n ∧ b = d) ∨ (l.lookup c = some b) := by
  by_cases e : c = n
  · subst e
    rw [List.lookup_cons_self] at h
    exact .inl ⟨rfl, (Option.some.inj h).symm⟩
  · rw [List.lookup_cons] at h
    have z : (c == n) = false := by simpa using e
    rw [z] at h
    exact .inr h
theorem caught_one {c n : Str} {b d : Bool} (h : ([(n, d)] : List (Str × Bool)).lookup c = some b) : c = n ∧ b = d := by
  rcases caught_cases h with h | h
  · exact h
  · cases h
theorem vals_none {us : List Value} (h : Vals ([] : List V) us) : us = [] := by cases h; rfl
theorem vals_ref {a : Addr} {vs : List V} {us ws : List Value} (h : Vals (.ref a :: vs) us) (k : ∀ us, Vals vs us → us = ws) : us = .ref a :: ws := by
  cases h with
  | cons h1 h2 =>
    have e := k _ h2
    subst e
    cases h1
    rfl
theorem vals_ty {n : String} {vs : List V} {us ws : List Value} (h : Vals (.ty n :: vs) us) (k : ∀ us, Vals vs us → us = ws) : us = .type n :: ws := by
  cases h with
  | cons h1 h2 =>
    have e := k _ h2
    subst e
    cases h1
    rfl
end Rf

set_option maxHeartbeats 1000000
/-! an own error of one field, from what the written part says -/
namespace Rf
open PySem PySem.Spec PyProof.Rows L2
theorem supC_of {K : PySem.W.Frag} {C : Addr} {nm q : Str} {N : Addr} {bs bm : List Value} {sn : List Str} {sub : List Value} {ab : Bool} {col : Option Bool} {dd : Option Addr} {k0 k1 k2 k3 k5 : Option Value}
    (h1 : K.lookup C = some (excClassObj nm q C N bs bm true sn sub ab col dd k0 k1 k2 k3 k5 "ValueError.__new__")) (h2 : PySem.HandSPX.refsVE bm = true)
    (h3 : PySem.W.findIn K (.ref C) "__setattr__" = some (some (.builtin "object.__setattr__"))) (h4 : PySem.W.subIn K (.ref C) (.type "BaseException") = some true) (h5 : PySem.W.typeIn K (.ref C) = some (.type "type")) (h6 : PySem.W.keepIn K (.ref C) = true)
    (h7 : PySem.W.mroIn K C (.ref C) = some true) (h8 : PySem.W.ks_superIn K C C "__init__" = some (some (.builtin "ValueError.__init__"))) (h9 : PySem.W.subIn K (.ref C) (.type "ValueError") = some true) : SupC K C C :=
  ⟨⟨⟨_, _, _, _, _, _, _, _, _, _, _, _, _, _, _, h1, h2⟩, h3, h4, h5, h6⟩, h7, h8, h9⟩
theorem excC_of {K : PySem.W.Frag} {D : Addr} (h1 : PySem.W.findIn K (.ref D) "__getattribute__" = some (some (.builtin "BaseException.__getattribute__"))) (h2 : PySem.W.findIn K (.ref D) "__getattr__" = some none) (h3 : PySem.W.subIn K (.ref D) (.type "BaseException") = some true)
    (h4 : PySem.W.hasDictIn K D = true) (h5 : PySem.W.findIn K (.ref D) "__class__" = some (some (.builtin "object.__class__"))) (h6 : PySem.W.specialIn K (.builtin "object.__class__") "__get__" = some (some (.builtin "getset_descriptor.__get__"))) (h7 : PySem.W.takesIn K (.builtin "object.__class__") = some true)
    (h8 : PySem.W.mroIn K D (.type "object") = some true) : ExcC K D ∧ XfC K D := ⟨⟨h1, h2, h3, h4, h5, h6, h7, h8⟩, ⟨h1, h2, h3, h4⟩⟩
theorem supK_of {P : Program} {K : PySem.W.Frag} {mg : Str → Option Value} {F : NdefX.NF} {cc D : Addr} {slf : Str} {f : Addr} {ccl : Value} {cdd : Option Addr} {vs : Array Value} {ccs : Array (Option Value)} {file : Str} {tf : Tok} {cl : Value} {cld : Option Addr} {csl : Array (Option Value)}
    (h1 : K.lookup F.c = some ⟨ccl, cdd, .fields vs, ccs⟩) (h2 : vs[2]? = some (.str file tf)) (h3 : ((P.main.file : Str) == file) = true) (h4 : K.lookup cc = some ⟨cl, cld, .cell (some (.ref D)), csl⟩) (h5 : PySem.W.hasDictIn K D = true)
    (h6 : PySem.W.codeIn K (.ref F.c) F.qual = true) (h7 : mg "super" = none)
    (q1 : F.cl = [(("__class__" : Str), cc)]) (q2 : F.scope.names.lookup ("super" : Str) = some .globalImplicit) (q3 : F.scope.names.lookup ("__class__" : Str) = some .free) (q4 : F.scope.names.lookup slf = some .local)
    (q5 : ((F.params.posonlyargs ++ F.params.args).head?.map (·.arg)) = some slf) (q6 : (P.main.scope.names.lookup ("super" : Str)).isSome = false) : SupK P K mg F f cc D slf := by
  obtain ⟨ar, e1, e2⟩ := Option.map_eq_some_iff.mp q5
  obtain ⟨cdD, hD, _⟩ := PySem.W.any_some h5
  exact ⟨q1, q2, q3, q4, ⟨ar, e1, e2⟩, ⟨_, _, _, _, _, _, h1, h2, h3⟩, ⟨_, _, _, h4⟩, ⟨cdD, hD⟩, q6, h7, h6⟩
end Rf

set_option maxHeartbeats 4000000
/-! tuple * int for any count; i ** j by bits -/
namespace Rf
open PySem PySem.Spec PyProof.Rows L2
theorem tuple_mulS (l : Addr) (items : Array Value) (n : Nat) (dd : Option Addr) (sl : Array (Option Value)) (x : Int) (u : Tok) (c0 : (decide (x < -(2 ^ 63)) || decide (x ≥ 2 ^ 63)) = false) (c1 : (items.isEmpty || x == 1) = true) :
    Meets (Builtin.«tuple.__mul__» ⟨[.ref l, .int x u], []⟩) (fun _ R s => s.heap.get? l = some { cls := .type "tuple", dict := dd, data := .seq items n, slots := sl } ∧ R (.ok (.ret (Value.ref l))) s) :=
  .of_wp fun prog w A R s h => by
    obtain ⟨hp, g, d, tk, os⟩ := s
    obtain ⟨hl, h⟩ := h
    have f1 := AutoSeq1.idx_int
    wp_walk using wpAny_loadPart' hl
    repeat (first
      | (refine wpAny_ite_false (decide_eq_false (by rw [c0]; exact Bool.false_ne_true)) ?_; wp_walk using wpAny_loadPart' hl)
      | (refine wpAny_ite_true (decide_eq_true (by rw [c1])) ?_; wp_walk using wpAny_loadPart' hl))
    exact ⟨_, rfl, h⟩
theorem tuple_mulN (l : Addr) (items : Array Value) (n : Nat) (dd : Option Addr) (sl : Array (Option Value)) (x : Int) (u : Tok) (c0 : (decide (x < -(2 ^ 63)) || decide (x ≥ 2 ^ 63)) = false) (c1 : (items.isEmpty || x == 1) = false) (c2 : (decide (x ≤ 0) || items.isEmpty) = true) :
    Meets (Builtin.«tuple.__mul__» ⟨[.ref l, .int x u], []⟩) (fun _ R s => s.heap.get? l = some { cls := .type "tuple", dict := dd, data := .seq items n, slots := sl } ∧
      R (.ok (.ret (Value.ref s.heap.objs.size))) { s with heap := s.heap.push { cls := Value.type "tuple", data := Data.seq #[] }, toks := s.toks }) :=
  .of_wp fun prog w A R s h => by
    obtain ⟨hp, g, d, tk, os⟩ := s
    obtain ⟨hl, h⟩ := h
    have f1 := AutoSeq1.idx_int
    wp_walk using wpAny_loadPart' hl
    repeat (first
      | (refine wpAny_ite_false (decide_eq_false (by rw [c0]; exact Bool.false_ne_true)) ?_; wp_walk using wpAny_loadPart' hl)
      | (refine wpAny_ite_false (decide_eq_false (by rw [c1]; exact Bool.false_ne_true)) ?_; wp_walk using wpAny_loadPart' hl)
      | (refine wpAny_ite_true (decide_eq_true (by rw [c2])) ?_; wp_walk using wpAny_loadPart' hl))
    exact ⟨_, rfl, h⟩
def rRepTW (K : PySem.W.Frag) : R2 := fun x y H Q => ∃ l k xs, x = .ref l ∧ y = .int k ∧ SqT K H l xs ∧ -(2 ^ 63) ≤ k ∧ k < 2 ^ 63 ∧ xs.length * k.toNat ≤ sizeLine ∧
  (if xs = [] ∨ k = 1 then Q (.ref l) H else ∀ p, H p = none → Q (.ref p) (upd H p (.tup (List.replicate k.toNat xs).flatten)))
open Classical in
theorem op_repTW {X : Cx} : OpR X (binaryOp .Mult) (rRepTW X.K) := by
  intro pins s σ H x y v u Q I rx ry h
  obtain ⟨l, k, xs, rfl, rfl, hT, h1, h2, hz, q⟩ := h
  cases rx
  obtain ⟨t, rfl⟩ := ry
  obtain ⟨its, r, ⟨⟨cls, dd, data, sl⟩, ho, hc, n, hd⟩, hs⟩ := I.tuple hT
  simp only at hc hd
  subst hc hd
  have hle : its.length = xs.length := r.length.symm
  have hsz0 : its.toArray.size = xs.length := by rw [List.size_toArray, hle]
  have c0 : (decide (k < -(2 ^ 63)) || decide (k ≥ 2 ^ 63)) = false := by
    rw [decide_eq_false (by omega), decide_eq_false (by omega)] <;> rfl
  have he : its.toArray.isEmpty = decide (xs = []) := by
    cases its with
    | nil =>
      have : xs = [] := List.eq_nil_of_length_eq_zero hle.symm
      rw [this]; rfl
    | cons a b =>
      have : xs ≠ [] := fun e => by rw [e] at hle; cases hle
      rw [decide_eq_false this]; rfl
  by_cases hh : xs = [] ∨ k = 1
  · rw [if_pos hh] at q
    have c1 : (its.toArray.isEmpty || k == 1) = true := by
      rw [he]
      rcases hh with hh | hh
      · rw [decide_eq_true hh]; rfl
      · rw [hh]; simp
    refine wpAny_binaryOp_repeat_ref (T := "tuple") (U := "int") (by decide) ⟨_, ho, rfl⟩ (fun s' => typeIs_int s' k t) noFill_tuple_mul F.fills_int_mul F.slot_int_rmul repeat_tuple F.slot_int_index.lookup
      (call_meets F.slot_int_rmul (typeIs_int s k t) F.entry_int_rmul (F.args_int_rmul_2 _ _) (int_rmul_tuple k t l its.toArray n dd sl)
        ⟨ho, rfl, ⟨_, ho, rfl⟩, call_meets F.slot_tuple_mul ⟨_, ho, rfl⟩ F.entry_tuple_mul (F.args_tuple_mul_2 _ _) (tuple_mulS l its.toArray n dd sl k t c0 c1) ⟨ho, ?_⟩⟩)
    exact ⟨.ref l, H, I, rfl, q⟩
  · rw [if_neg hh] at q
    have hne : xs ≠ [] := fun e => hh (.inl e)
    have hk1 : k ≠ 1 := fun e => hh (.inr e)
    have hi : its.toArray.isEmpty = false := by rw [he, decide_eq_false hne]
    have c1 : (its.toArray.isEmpty || k == 1) = false := by
      rw [hi, Bool.false_or]
      exact beq_eq_false_iff_ne.mpr hk1
    by_cases hk : k ≤ 0
    · have c2 : (decide (k ≤ 0) || its.toArray.isEmpty) = true := by rw [decide_eq_true hk]; rfl
      refine wpAny_binaryOp_repeat_ref (T := "tuple") (U := "int") (by decide) ⟨_, ho, rfl⟩ (fun s' => typeIs_int s' k t) noFill_tuple_mul F.fills_int_mul F.slot_int_rmul repeat_tuple F.slot_int_index.lookup
        (call_meets F.slot_int_rmul (typeIs_int s k t) F.entry_int_rmul (F.args_int_rmul_2 _ _) (int_rmul_tuple k t l its.toArray n dd sl)
          ⟨ho, rfl, ⟨_, ho, rfl⟩, call_meets F.slot_tuple_mul ⟨_, ho, rfl⟩ F.entry_tuple_mul (F.args_tuple_mul_2 _ _) (tuple_mulN l its.toArray n dd sl k t c0 c1 c2) ⟨ho, ?_⟩⟩)
      have e0 : k.toNat = 0 := by omega
      rw [e0] at q
      refine ⟨.ref s.heap.objs.size, _, I.laid (t' := s.toks) (o := .tup []) (fun b ob q => Heap.get?_push_of_some _ q) (Nat.le_refl _) ?_, rfl, q _ (I.hok.fresh (Nat.le_refl _))⟩
      exact ⟨by rw [sizeLine_eq]; simp, [], .nil, IsTup.new _ _⟩
    · have c2 : (decide (k ≤ 0) || its.toArray.isEmpty) = false := by
        rw [hi, Bool.or_false]
        exact decide_eq_false hk
      have hm : (((its.toArray.size : Nat) : Int) * k) = ((xs.length * k.toNat : Nat) : Int) := by
        rw [hsz0, Int.natCast_mul, Int.toNat_of_nonneg (by omega)]
      have hz' : xs.length * k.toNat ≤ 16777216 := by rw [sizeLine_eq] at hz; exact hz
      have flen : (List.replicate k.toNat its).flatten.length ≤ sizeLine := by
        rw [PyProof.Rows.lm_len_rep_flat, hle, Nat.mul_comm]
        exact hz
      have c4 : Builtin.Tuple.tupleTooMany (((its.toArray.size : Nat) : Int) * k) = false := by
        unfold Builtin.Tuple.tupleTooMany
        rw [hm]
        exact decide_eq_false (by omega)
      have c3 : ¬ ((its.toArray.size : Nat) : Int) * k > (2 ^ 63 - 1) / 8 := by rw [hm]; omega
      refine wpAny_binaryOp_repeat_ref (T := "tuple") (U := "int") (by decide) ⟨_, ho, rfl⟩ (fun s' => typeIs_int s' k t) noFill_tuple_mul F.fills_int_mul F.slot_int_rmul repeat_tuple F.slot_int_index.lookup
        (call_meets F.slot_int_rmul (typeIs_int s k t) F.entry_int_rmul (F.args_int_rmul_2 _ _) (int_rmul_tuple k t l its.toArray n dd sl)
          ⟨ho, rfl, ⟨_, ho, rfl⟩, call_meets F.slot_tuple_mul ⟨_, ho, rfl⟩ F.entry_tuple_mul (F.args_tuple_mul_2 _ _) (tuple_mulW l its.toArray n dd sl k t c0 c1 c2 c3 c4 (by rw [size_rep, List.size_toArray]; exact flen)) ⟨ho, ?_⟩⟩)
      rw [size_rep]
      refine ⟨.ref s.heap.objs.size, _, I.laid (t' := s.toks) (o := .tup (List.replicate k.toNat xs).flatten) (fun b ob q => Heap.get?_push_of_some _ q) (Nat.le_refl _) ?_, rfl, q _ (I.hok.fresh (Nat.le_refl _))⟩
      exact ⟨by rw [PyProof.Rows.lm_len_rep_flat, Nat.mul_comm]; exact hz, _, r.rep k.toNat, IsTup.new _ _⟩
noncomputable def oMulA (a b : D) (h : AH) : ER := match a with
  | .tup ds => (match b with
    | .int k => if RepOk ds.length k then .ok (.tup (List.replicate k.toNat ds).flatten) h else .stuck
    | _ => .stuck)
  | _ => oMul a b h
abbrev rMulA3 (K : PySem.W.Frag) : R2 := fun x y H Q => rMulAll x y H Q ∨ rRepTW K x y H Q
theorem op_mulA {X : Cx} : OpR X (binaryOp .Mult) (rMulA3 X.K) := op_mulAll.or op_repTW
open Classical in
theorem os_mulA {C : Ct} : OpS C (rMulA3 C.X.K) oMulA := by
  intro ι h H σ x y d1 d2 Q R r1 r2 p
  cases d1 with
  | tup ds =>
    cases d2 with
    | int k =>
      have p : PostE C ι h.length H σ (if RepOk ds.length k then .ok (.tup (List.replicate k.toNat ds).flatten) h else .stuck) Q := p
      split at p
      · rename_i hl
        obtain ⟨a, vs, rfl, s, rr⟩ := RD.tup.mp r1
        have l1 := rr.length
        refine .inr ⟨a, k, vs, rfl, RD.int.mp r2, s, hl.1, hl.2.1, by rw [← l1]; exact hl.2.2, ?_⟩
        by_cases hh : vs = [] ∨ k = 1
        · rw [if_pos hh]
          have e : (List.replicate k.toNat ds).flatten = ds := by
            rcases hh with hh | hh
            · subst hh
              have : ds = [] := List.eq_nil_of_length_eq_zero (by simpa using l1)
              subst this
              simp
            · subst hh
              show (List.replicate 1 ds).flatten = ds
              simp
          rw [e] at p
          exact p.here R r1
        · rw [if_neg hh]
          exact fun q hq => p.tup R (rr.rep _) hq
      · exact p.elim
    | _ => exact (show False from p).elim
  | _ => exact .inl (os_mul ι h H σ x y _ d2 Q R r1 r2 p)
/-! ** -/
def PowB (i j : Int) : Prop := 0 ≤ j ∧ (Builtin.Int.intBits i : Int) * j ≤ 2 ^ 27
noncomputable instance {i j : Int} : Decidable (PowB i j) := Classical.propDecidable _
theorem op_powB {X : Cx} : OpR X (binaryOp .Pow) (rI PowB fun i j => .int (i ^ j.toNat)) := opI fun _ _ _ _ _ _ _ hc q => pow_int hc.1 hc.2 q
noncomputable def oPowB (a b : D) (h : AH) : ER := match a, b with
  | .int i, .int j => if PowB i j then .ok (.int (i ^ j.toNat)) h else .stuck
  | _, _ => .stuck
theorem os_powB {C : Ct} : OpS C (rI PowB fun i j => .int (i ^ j.toNat)) oPowB := by
  intro ι h H σ x y d1 d2 Q R r1 r2 p
  unfold oPowB at p
  split at p
  · rename_i i j
    split at p
    · rename_i hc
      exact ⟨i, j, RD.int.mp r1, RD.int.mp r2, hc, p.here R (RD.int.mpr rfl)⟩
    · exact p.elim
  · exact p.elim
theorem powB {i j : Int} (h0 : 0 ≤ j) (h1 : j ≤ 100000) (h2 : i.natAbs < 2 ^ 1000) : PowB i j := by
  refine ⟨h0, ?_⟩
  have hb : Builtin.Int.intBits i ≤ 1000 := by
    unfold Builtin.Int.intBits
    split
    · omega
    · rename_i hi
      have hi : i ≠ 0 := by simpa using hi
      have := (Nat.log2_lt (n := i.natAbs) (k := 1000) (by omega)).mpr h2
      omega
  have a1 : (Builtin.Int.intBits i : Int) * j ≤ 1000 * j := Int.mul_le_mul_of_nonneg_right (by omega) h0
  omega
@[simp] theorem oMulA_int (i : Int) (b : D) (h : AH) : oMulA (.int i) b h = oMul (.int i) b h := rfl
@[simp] theorem oMulA_ref (r : Nat) (b : D) (h : AH) : oMulA (.ref r) b h = oMul (.ref r) b h := rfl
@[simp] theorem oMulA_tup (ds : List D) (k : Int) (h : AH) : oMulA (.tup ds) (.int k) h = if RepOk ds.length k then .ok (.tup (List.replicate k.toNat ds).flatten) h else .stuck := rfl
@[simp] theorem oPowB_ (i j : Int) (h : AH) : oPowB (.int i) (.int j) h = if PowB i j then .ok (.int (i ^ j.toNat)) h else .stuck := rfl
@[simp] theorem powB_18 : PowB 10 18 := powB (by decide) (by decide) (by decide)
@[simp] theorem powB_15 : PowB 10 15 := powB (by decide) (by decide) (by decide)
@[simp] theorem powB_60 : PowB 10 60 := powB (by decide) (by decide) (by decide)
@[simp] theorem powB_6 : PowB 10 6 := powB (by decide) (by decide) (by decide)
@[simp] theorem powB_600 : PowB (10 ^ 60) 10 := powB (by decide) (by decide) (by decide +kernel)
@[simp] theorem powB_600' : PowB 1000000000000000000000000000000000000000000000000000000000000 10 := powB (by decide) (by decide) (by decide +kernel)
end Rf

set_option maxHeartbeats 2000000
/-! quiet defs: they raise nothing, so they may be called where an exception is handled -/
namespace L2H
open PySem PySem.Spec PyProof.Rows
theorem RoomH.units {k : Nat} {A : Around} (hr : RoomH k A) : A.units + 64 < PySem.cLine := by have := hr.un; omega
theorem RoomH.units0 {k : Nat} {A : Around} (hr : RoomH k A) : A.units < PySem.cLine := by have := hr.un; omega
end L2H
namespace Rf
open PySem PySem.Spec PyProof.Rows L2
abbrev RoomQ := L2H.RoomH
theorem units65H {A : Around} {k : Nat} (hr : RoomQ k A) : A.units + 65 < cLine := by have := hr.un; omega
def CXN : CXT := fun _ _ _ _ _ _ => False
def cool (A : Around) : Around := { A with handled := none }
structure FnQ (P : Program) (w : World) (K : PySem.W.Frag) (mg : Str → Option Value) (base : Heap) (k : Nat) (f : Addr) (fd : FuncData) (ps : List Str) (sp : Sp) : Prop where
  ln : ∀ vs H Q E, sp vs H Q E → vs.length = ps.length
  go : ∀ (A : Around) (outer : List Env) (s : Shared) (H : Hp) (args : Args) (us : List Value) (vs : List V) (Q : VK) (E : XK), RoomQ k A → Env0 P w K mg base A outer s H → BindsTo s fd args (ps.zip us) → Vals vs us → sp vs H Q E → codeAny (model P w) A (.call (.ref f) args) (CR CXN outer P w H s Q E) s
theorem FnQ.mono {P : Program} {w : World} {K : PySem.W.Frag} {mg : Str → Option Value} {base : Heap} {j k : Nat} {f : Addr} {fd : FuncData} {ps : List Str} {sp : Sp} (F : FnQ P w K mg base j f fd ps sp) (h : j ≤ k) : FnQ P w K mg base k f fd ps sp :=
  ⟨F.ln, fun A outer s H args us vs Q E hr => F.go A outer s H args us vs Q E (hr.mono h)⟩
/-- the context of a quiet def's body -/
def cxQ (P : Program) (w : World) (K : PySem.W.Frag) (mg : Str → Option Value) (base : Heap) (N : List Str) (qual : Str) (scope : Scope) (f : Addr) (cd : Value) (A : Around) (outer : List Env) (s : Shared) (H : Hp) (E : XK) : Cx :=
  { cxOf CXN P w K mg base N qual scope f cd A outer s H E with calm := false }
theorem inv_quiet {P : Program} {w : World} {K : PySem.W.Frag} {mg : Str → Option Value} {base : Heap} {N : List Str} {qual : Str} {scope : Scope} {f : Addr} {cd : Value} {A : Around} {outer : List Env} {s s1 : Shared} {H H' : Hp} {E : XK} {σ : List (Option V)} {pins : List (Addr × Obj)}
    (hf : A.frames = some outer) (I : Inv (cxOf CXN P w K mg base N qual scope f cd (cool A) outer s H E) pins σ H' s1) : Inv (cxQ P w K mg base N qual scope f cd A outer s H E) pins σ H' s1 := by
  have o := I.ok
  have ok : (cxQ P w K mg base N qual scope f cd A outer s H E).Ok :=
    ⟨o.mod, o.kind, o.glob, o.blt, o.above, o.inj, o.has, o.cab, fun z => Bool.noConfusion (show false = true from z), Around.frames_deeper hf, o.stk, o.exf, o.bs, o.bsz, o.noex, o.exfs, o.funs, o.frf⟩
  exact ⟨ok, I.os, I.bare, I.base, I.loc, I.cell, I.free, I.freeC, I.pin, I.hok, I.len⟩
theorem fn_quiet {P : Program} {w : World} {K : PySem.W.Frag} {mg : Str → Option Value} {base : Heap} {x qual : Str} {st : Stmt} {f : Addr} {fd : FuncData} {N ps : List Str} {k : Nat} {sp : Sp} (F : Fun K x qual st f fd) (S : FnScope N ps (defScope st)) (ln : ∀ vs H Q E, sp vs H Q E → vs.length = ps.length)
    (hb : ∀ (cdv : Value) (A : Around) (outer : List Env) (s : Shared) (H : Hp) (vs : List V) (Q : VK) (E : XK), RoomQ k (A.deeper (envOfC qual (defScope st) s.heap.objs.size f cdv)) → sp vs H Q E → ∃ t, PSs (cxQ P w K mg base N qual (defScope st) f cdv A outer s H E) (defBody st) t ∧ t { nx := fun _ H' => Q .non H', rt := Q } (start N vs) H) :
    FnQ P w K mg base (k + 1) f fd ps sp := by
  obtain ⟨oc, od, kV, doc, pm, an, cdv, ct, osl, rfl, lk, hcd⟩ := F.ex
  refine ⟨ln, fun A outer s H args us vs Q E hr e0 hbd r hsp => ?_⟩
  have up : ∀ b o, base.get? b = some o → s.heap.get? b = some o := fun b o e => (e0.bs b o e).1
  have KX : K.In s.heap := e0.mod.kin.keeps up
  have lim : s.heap.NoLimit := e0.mod.nolimit.keeps up
  have kinds : ∀ y ∈ ps.zip us, (defScope st).names.lookup y.1 = some .local ∨ ((defScope st).names.lookup y.1 = some .cell ∧ ((cellsFrom (s.heap.objs.size + 1) (defScope st).names []).lookup y.1).isSome = true) := by
    rintro ⟨n, v⟩ hy
    exact (S.par n (List.of_mem_zip hy).1).imp id fun q => ⟨q, PySem.W.cellsFrom_some _ _ _ (.inl q)⟩
  refine codeAny_call_function hr.depth (KX _ _ lk) rfl S.co S.gen rfl (PySem.W.codeRec_of KX hcd)
    (hbd _ _ _ _ (wpAny_newFunctionEnv_cells S.kind kinds fun env he s1 x => ?_))
  subst he
  refine ⟨lim.keeps x.toInCall.keep,
    codeAny_func ?_⟩
  obtain ⟨t, ht, hq⟩ := hb cdv A outer s H vs Q E (hr.deeper _) hsp
  have e1 : Env0 P w K mg base (cool A) outer s H := ⟨e0.frames, e0.mod, e0.bs, e0.bsz, e0.funs, e0.frf, e0.hok, e0.bare⟩
  have I0 : Inv (cxOf CXN P w K mg base N qual (defScope st) f cdv (cool A) outer s H E) [] (start N vs) H s1 := inv_start S rfl e1 (ln _ _ _ _ hsp) r x
  have I := inv_quiet e0.frames I0
  refine wpAny_mono (ht.run [] s1 (start N vs) H _ I hq) (fun fl s' hs => ?_)
    fun e s' hs => hs
  cases fl with
  | ret u => exact let ⟨v, σ', H', J, rv, q⟩ := hs; ⟨v, H', J.os, J.bare, J.base, J.hok, rv, q⟩
  | next => exact let ⟨σ', H', J, q⟩ := hs; ⟨V.non, H', J.os, J.bare, J.base, J.hok, rfl, q⟩
  | brk => exact let ⟨_, _, _, q⟩ := hs; (show False from q).elim
  | cont => exact let ⟨_, _, _, q⟩ := hs; (show False from q).elim
/-- what does not raise -/
def quiet (o : ER) : ER := match o with
  | .exc _ _ _ => .stuck
  | o => o
def noX (F : List D → AH → ER) : List D → AH → ER := fun ds h => quiet (F ds h)
@[simp] theorem quiet_ok (d : D) (h : AH) : quiet (.ok d h) = .ok d h := rfl
@[simp] theorem noX_ (F : List D → AH → ER) (ds : List D) (h : AH) : noX F ds h = quiet (F ds h) := rfl
theorem fn_okQ {P : Program} {w : World} {K : PySem.W.Frag} {mg : Str → Option Value} {base : Heap} {x qual : Str} {st : Stmt} {f : Addr} {fd : FuncData} {N ps : List Str} {k n pl : Nat} {m : SM} (F : Fun K x qual st f fd) (S : FnScope N ps (defScope st)) (hN : N.length = n) (hp : ps.length = pl)
    (hm : ∀ cdv A outer s H E, RoomQ k (A.deeper (envOfC qual (defScope st) s.heap.objs.size f cdv)) → MB ⟨cxQ P w K mg base N qual (defScope st) f cdv A outer s H E, fun _ _ _ _ => False, none⟩ (defBody st) m) :
    FnQ P w K mg base (k + 1) f fd ps (spF K mg pl (noX (fsem n m))) := by
  subst hN hp
  refine fn_quiet F S (fun vs H Q E h => h.1) (fun cdv A outer s H vs Q E hr h => ?_)
  obtain ⟨hl, ι, h, ds, R, r, p⟩ := h
  obtain ⟨t, pt, s1⟩ := hm cdv A outer s H E hr
  refine ⟨t, pt, ?_⟩
  refine s1.run _ h _ H ι _ R ⟨start_re N.length r, trivial⟩ ?_
  unfold noX fsem at p
  generalize m (ds.map some ++ List.replicate (N.length - ds.length) none) h = o at p
  have key : ∀ (d : D) (h' : AH), PostF K mg ι h.length H (quiet (gc h (.ok d h'))) Q E → PostF K mg ι h.length H (.ok d h') Q E := fun d h' p => by
    refine PostF.gc R ?_
    have e : quiet (gc h (.ok d h')) = gc h (.ok d h') := by
      unfold gc
      dsimp only
      repeat' split
      all_goals rfl
    rwa [e] at p
  cases o with
  | nx e h1 => exact fun ι' H' σ' x R' V' => key _ _ p ι' H' .non x R' (RD.non.mpr rfl)
  | rt d h1 => exact fun ι' H' v x R' V' => key _ _ p ι' H' v x R' V'
  | exc c fs e h1 => exact (show False from p).elim
  | bk e h1 => exact (show False from p).elim
  | ct e h1 => exact (show False from p).elim
  | stuck => exact (show False from p).elim
theorem run_quiet {X : Cx} {k : Nat} {f : Addr} {fd : FuncData} {ps : List Str} {sp : Sp} {pins : List (Addr × Obj)} {σ : List (Option V)} {H : Hp} {s : Shared} {Q : VK} {E : XK} {us : List Value} {vs : List V} (F : FnQ X.prog X.w X.K X.mg X.base k f fd ps sp) (hr : RoomQ k X.A) (hb : Binds X.K fd ps [])
    (I : Inv X pins σ H s) (r : Vals vs us) (h : sp vs H Q E) : wpAny (model X.prog X.w) X.A (call (.ref f) us) (EP X pins σ Q) X.xe s := by
  have hl : us.length = ps.length := by rw [← r.length]; exact F.ln _ _ _ _ h
  have b := hb s us I.kIn (by simpa using hl)
  rw [List.append_nil] at b
  refine wpAny_call (codeAny_mono (F.go X.A X.stack s H ⟨us, []⟩ us vs Q E hr I.env0 b r h) ?_)
  intro o s' hq
  match o, hq with
  | .ok (.ret u), hq => exact I.after hq
  | .ok .next, hq => exact (show False from hq).elim
  | .ok .brk, hq => exact (show False from hq).elim
  | .ok .cont, hq => exact (show False from hq).elim
  | .error e, hq => exact (show False from hq).elim
theorem me_callQ {C : Ct} {k pl : Nat} {f : Addr} {fd : FuncData} {ps : List Str} {F : List D → AH → ER} {x : Str} {p pos : Pos} {e : Expr} {es : List Expr} {ml : LM} (F0 : FnQ C.X.prog C.X.w C.X.K C.X.mg C.X.base k f fd ps (spF C.X.K C.X.mg pl (noX F))) (hr : RoomQ k C.X.A) (hm : C.X.mg x = some (.ref f)) (hk : PySem.W.keepIn C.X.K (.ref f) = true) (hb : Binds C.X.K fd ps [])
    (ha : MA C (e :: es) ml) (hlen : (e :: es).length = pl := by rfl) (hg : Gl C.X x := by rfl) (hdb : (x == ("__debug__" : Str)) = false := by decide) (he : starEach (e :: es) C.X.env = (false, eval e C.X.env) :: starEach es C.X.env := by rfl) (hpl : (backTo pos (starEach es C.X.env)).any (·.1) = false := by rfl) :
    ME C (.Call (.Name x p) (e :: es) [] pos) (eCall (argn pl (noX F)) ml) := by
  obtain ⟨t, pa, s⟩ := ha
  refine ⟨fun σ H Q => t σ H fun vs H1 => spF C.X.K C.X.mg pl (noX F) vs H1 Q (fun _ _ _ => False), ⟨fun pins sh σ H Q I h => ?_⟩, ⟨fun env h σ H ι Q R V q => ?_⟩⟩
  · refine wpAny_Call_Name_kw (ld_glob I hg hm (PySem.W.callWith_K (h₀ := C.X.base) I.ok.mod.kin hk (thn (pa.run pos pins sh σ H _ I h) fun us s1 z => ?_) he hpl) hdb)
    obtain ⟨vs, H1, I1, r, q⟩ := z
    exact ⟨I1.kIn, run_quiet F0 hr hb I1 r q⟩
  · refine s.run env h σ H ι _ R V ?_
    unfold eCall at q
    cases hml : ml env h with
    | ok ds h1 =>
      rw [hml] at q
      refine fun ι' H' vs x R' r => ?_
      have q2 : PostE C ι h.length H σ (if ds.length = pl then noX F ds h1 else .stuck) Q := q
      by_cases hd : ds.length = pl
      · rw [if_pos hd] at q2
        refine ⟨by rw [← r.length]; exact hd, ι', h1, ds, R', r, ?_⟩
        have q3 := PostE.shift q2 x
        cases hF : F ds h1 with
        | ok d h2 =>
          have e : noX F ds h1 = .ok d h2 := by rw [noX_, hF]; rfl
          rw [e] at q3 ⊢
          exact q3
        | exc c fs h2 =>
          have e : noX F ds h1 = .stuck := by rw [noX_, hF]; rfl
          rw [e] at q3
          exact (show False from q3).elim
        | stuck =>
          have e : noX F ds h1 = .stuck := by rw [noX_, hF]; rfl
          rw [e] at q3
          exact (show False from q3).elim
      · rw [if_neg hd] at q2; exact q2.elim
    | exc c fs h1 => rw [hml] at q; exact q
    | stuck => rw [hml] at q; exact q
theorem roomQ_of {k : Nat} {A : Around} (r : Room k A) : RoomQ k A := L2H.roomH_of r
theorem roomQ_mark {k : Nat} {A : Around} {v : Option Value} (r : Room k A) : RoomQ k (A.mark v) := ⟨by cases v <;> exact r.dp, by cases v <;> exact r.un⟩
end Rf

set_option maxHeartbeats 1000000
/-! dicts whose keys are tuples; d.pop(k, x); range(i, j, c); what is never reached -/
namespace Rf
open PySem PySem.Spec PyProof.Rows L2
/-! ### never reached -/
def eStuck : EM := fun _ _ => .stuck
theorem me_never {C : Ct} {e : Expr} : ME C e eStuck := ⟨fun _ _ _ => False, ⟨fun _ _ _ _ _ _ h => h.elim⟩, ⟨fun env h σ H ι Q R V p => p⟩⟩
/-! ### any keys -/
section
variable {κ : Type} [DecidableEq κ]
def valG (kvs : List (κ × D)) (k : κ) : Option D := (kvs.find? fun kv => decide (kv.1 = k)).map (·.2)
def setG (kvs : List (κ × D)) (k : κ) (v : D) : List (κ × D) := if (kvs.any fun kv => decide (kv.1 = k)) = true then kvs.map (fun kv => if kv.1 = k then (kv.1, v) else kv) else kvs ++ [(k, v)]
def dropG (kvs : List (κ × D)) (k : κ) : List (κ × D) := kvs.filter fun kv => decide (kv.1 ≠ k)
variable {K : PySem.W.Frag} {ι : Nat → Addr} {n : Nat} {H : Hp}
theorem rows_ind {P : List (κ × D) → List (κ × V) → Prop} (h0 : P [] []) (h1 : ∀ k d v kvs ws, RD K ι n H d v → P kvs ws → P ((k, d) :: kvs) ((k, v) :: ws)) : ∀ {kvs : List (κ × D)} {ws : List (κ × V)}, kvs.map (·.1) = ws.map (·.1) → RDs K ι n H (kvs.map (·.2)) (ws.map (·.2)) → P kvs ws
  | [], [], _, _ => h0
  | [], w :: ws, e, _ => by cases e
  | kv :: kvs, [], e, _ => by cases e
  | (k, d) :: kvs, (k', v) :: ws, e, r => by
    rw [List.map_cons, List.map_cons] at e
    injection e with e1 e2
    obtain ⟨v0, vs, e3, r1, r2⟩ := RDs.cons.mp r
    rw [List.map_cons] at e3
    injection e3 with e4 e5
    have e1 : k = k' := e1
    have e4 : v = v0 := e4
    subst e1 e4
    exact h1 k d v kvs ws r1 (rows_ind h0 h1 e2 (by rw [← e5] at r2; exact r2))
theorem valG_V {kvs : List (κ × D)} {ws : List (κ × V)} (k : κ) (e : kvs.map (·.1) = ws.map (·.1)) (r : RDs K ι n H (kvs.map (·.2)) (ws.map (·.2))) : (valG kvs k = none ∧ valV ws k = none) ∨ ∃ d v, valG kvs k = some d ∧ valV ws k = some v ∧ RD K ι n H d v := by
  refine rows_ind (P := fun kvs ws => (valG kvs k = none ∧ valV ws k = none) ∨ ∃ d v, valG kvs k = some d ∧ valV ws k = some v ∧ RD K ι n H d v) (.inl ⟨rfl, rfl⟩) (fun k' d v kvs ws rv ih => ?_) e r
  unfold valG valV at *
  by_cases h : k' = k
  · right
    exact ⟨d, v, by simp [h], by simp [h], rv⟩
  · simpa [List.find?_cons, h] using ih
theorem any_V {kvs : List (κ × D)} {ws : List (κ × V)} (k : κ) (e : kvs.map (·.1) = ws.map (·.1)) : (kvs.any fun kv => decide (kv.1 = k)) = (ws.any fun kv => decide (kv.1 = k)) := by
  have a : ∀ {α : Type} (l : List (κ × α)), (l.any fun kv => decide (kv.1 = k)) = ((l.map (·.1)).any fun x => decide (x = k)) := fun l => by rw [List.any_map]; rfl
  rw [a, a, e]
theorem setG_V {kvs : List (κ × D)} {ws : List (κ × V)} (k : κ) {d : D} {v : V} (e : kvs.map (·.1) = ws.map (·.1)) (r : RDs K ι n H (kvs.map (·.2)) (ws.map (·.2))) (rv : RD K ι n H d v) :
    (setG kvs k d).map (·.1) = (putK ws k v).map (·.1) ∧ RDs K ι n H ((setG kvs k d).map (·.2)) ((putK ws k v).map (·.2)) := by
  unfold setG putK
  rw [any_V k e]
  by_cases q : (ws.any fun kv => decide (kv.1 = k)) = true
  · rw [if_pos q, if_pos q]
    clear q
    refine rows_ind (P := fun kvs ws => (kvs.map fun kv => if kv.1 = k then (kv.1, d) else kv).map (·.1) = (ws.map fun kv => if kv.1 = k then (kv.1, v) else kv).map (·.1) ∧ RDs K ι n H ((kvs.map fun kv => if kv.1 = k then (kv.1, d) else kv).map (·.2)) ((ws.map fun kv => if kv.1 = k then (kv.1, v) else kv).map (·.2))) ⟨rfl, RDs.nil'⟩ (fun k' d' v' kvs ws r' ih => ?_) e r
    by_cases h : k' = k
    · simp only [List.map_cons, if_pos h]
      exact ⟨by rw [ih.1], RDs.cons' rv ih.2⟩
    · simp only [List.map_cons, if_neg h]
      exact ⟨by rw [ih.1], RDs.cons' r' ih.2⟩
  · rw [if_neg q, if_neg q, List.map_append, List.map_append, List.map_append, List.map_append, e]
    exact ⟨rfl, RDs.append r (RDs.cons' rv RDs.nil')⟩
theorem dropG_V {kvs : List (κ × D)} {ws : List (κ × V)} (k : κ) (e : kvs.map (·.1) = ws.map (·.1)) (r : RDs K ι n H (kvs.map (·.2)) (ws.map (·.2))) :
    (dropG kvs k).map (·.1) = (dropK ws k).map (·.1) ∧ RDs K ι n H ((dropG kvs k).map (·.2)) ((dropK ws k).map (·.2)) := by
  unfold dropG dropK
  refine rows_ind (P := fun kvs ws => (kvs.filter fun kv => decide (kv.1 ≠ k)).map (·.1) = (ws.filter fun kv => decide (kv.1 ≠ k)).map (·.1) ∧ RDs K ι n H ((kvs.filter fun kv => decide (kv.1 ≠ k)).map (·.2)) ((ws.filter fun kv => decide (kv.1 ≠ k)).map (·.2))) ⟨rfl, RDs.nil'⟩ (fun k' d' v' kvs ws r' ih => ?_) e r
  by_cases h : k' = k
  · simpa [List.filter_cons, h] using ih
  · simp only [List.filter_cons, decide_eq_true (show (k' ≠ k) from h), if_true, List.map_cons]
    exact ⟨by rw [ih.1], RDs.cons' r' ih.2⟩
end
/-! ### tuple keys -/
def keysD : List D → Option (List Key)
  | [] => some []
  | d :: ds => match keyD d, keysD ds with
    | some k, some ks => some (k :: ks)
    | _, _ => none
theorem keysD_V {K : PySem.W.Frag} {ι : Nat → Addr} {n : Nat} {H : Hp} : ∀ {ds : List D} {vs : List V} {ks : List Key}, RDs K ι n H ds vs → keysD ds = some ks → vs = ks.map kV
  | [], vs, ks, r, e => by cases e; rw [RDs.nil.mp r]; rfl
  | d :: ds, vs, ks, r, e => by
    obtain ⟨v, vs', rfl, r1, r2⟩ := RDs.cons.mp r
    unfold keysD at e
    split at e
    · rename_i k ks' e1 e2
      cases e
      rw [List.map_cons, keyD_V r1 e1, keysD_V r2 e2]
    · cases e
/-- since session 5 a tuple may be one whose object is known: its use as a key is not served here (see NOTES) -/
def tupK : D → Option (List Key)
  | _ => none
def dictT (h : AH) : D → Option (List (List Key × D))
  | .ref i => match h[i]? with
    | some (.dT kvs) => some kvs
    | _ => none
  | _ => none
section
variable {K : PySem.W.Frag} {ι : Nat → Addr} {h : AH} {H : Hp} {d : D} {v : V}
theorem dictT_rel {kvs : List (List Key × D)} (R : Rel K ι h H) (r : RD K ι h.length H d v) (e : dictT h d = some kvs) :
    ∃ i ws, d = .ref i ∧ i < h.length ∧ v = .ref (ι i) ∧ H (ι i) = some (.dT ws) ∧ kvs.map (·.1) = ws.map (·.1) ∧ RDs K ι h.length H (kvs.map (·.2)) (ws.map (·.2)) := by
  unfold dictT at e
  split at e
  · rename_i i
    split at e
    · rename_i kvs' e2
      cases e
      obtain ⟨ws, hw, hk, rr⟩ := R.ob i _ e2
      have ev := RD.ref.mp r
      exact ⟨i, ws, rfl, ev.1, ev.2, hw, hk, rr⟩
    · cases e
  · cases e
theorem tupK_rel {ks : List Key} (r : RD K ι h.length H d v) (e : tupK d = some ks) : ∃ b, v = .ref b ∧ H b = some (.tup (ks.map kV)) := by
  unfold tupK at e
  cases e
end
def oTGet (a b : D) (h : AH) : ER := match dictT h a, tupK b with
  | some kvs, some k => (match valG kvs k with
    | some d => .ok d h
    | none => .stuck)
  | _, _ => .stuck
def oTIn (b a : D) (h : AH) : ER := match dictT h a, tupK b with
  | some kvs, some k => .ok (.bl (valG kvs k).isSome) h
  | _, _ => .stuck
def oTNotIn (b a : D) (h : AH) : ER := match dictT h a, tupK b with
  | some kvs, some k => .ok (.bl (!(valG kvs k).isSome)) h
  | _, _ => .stuck
open Classical in
noncomputable def putT (o i v : D) (h : AH) : Option AH := match o, dictT h o, tupK i with
  | .ref r, some kvs, some k => if kvs.length < sizeLine then some (h.set r (.dT (setG kvs k v))) else none
  | _, _, _ => none
/-- {} for tuple keys -/
def eDictT : EM := fun _ h => .ok (.ref h.length) (h ++ [.dT []])
section
variable {C : Ct} {a b : Expr} {ma mb : EM} {pos : Pos}
theorem os_tget : OpS C rDGet oTGet := by
  intro ι h H σ x y d1 d2 Q R r1 r2 p
  unfold oTGet at p
  split at p
  · rename_i kvs k e1 e2
    obtain ⟨i, ws, rfl, hi, rfl, hw, hk, rr⟩ := dictT_rel R r1 e1
    obtain ⟨t, rfl, ht⟩ := tupK_rel r2 e2
    rcases valG_V k hk rr with ⟨q, _⟩ | ⟨d, v, q1, q2, q3⟩
    · rw [q] at p; exact p.elim
    · rw [q1] at p
      refine ⟨ι i, v, rfl, ?_, p.here R q3⟩
      rw [← q2]
      exact DGet.t hw ht
  · exact p.elim
theorem isSome_V {K : PySem.W.Frag} {ι : Nat → Addr} {n : Nat} {H : Hp} {κ : Type} [DecidableEq κ] {kvs : List (κ × D)} {ws : List (κ × V)} (k : κ) (e : kvs.map (·.1) = ws.map (·.1)) (r : RDs K ι n H (kvs.map (·.2)) (ws.map (·.2))) : (valV ws k).isSome = (valG kvs k).isSome := by
  rcases valG_V k e r with ⟨q1, q2⟩ | ⟨d, v, q1, q2, q3⟩ <;> rw [q1, q2] <;> rfl
theorem os_tin : OpS C rDIn oTIn := by
  intro ι h H σ x y d1 d2 Q R r1 r2 p
  unfold oTIn at p
  split at p
  · rename_i kvs k e1 e2
    obtain ⟨i, ws, rfl, hi, rfl, hw, hk, rr⟩ := dictT_rel R r2 e1
    obtain ⟨t, rfl, ht⟩ := tupK_rel r1 e2
    refine ⟨ι i, valV ws k, rfl, DGet.t hw ht, ?_⟩
    rw [isSome_V k hk rr]
    exact p.here R (RD.bl.mpr rfl)
  · exact p.elim
theorem os_tnotin : OpS C rDNotIn oTNotIn := by
  intro ι h H σ x y d1 d2 Q R r1 r2 p
  unfold oTNotIn at p
  split at p
  · rename_i kvs k e1 e2
    obtain ⟨i, ws, rfl, hi, rfl, hw, hk, rr⟩ := dictT_rel R r2 e1
    obtain ⟨t, rfl, ht⟩ := tupK_rel r1 e2
    refine ⟨ι i, valV ws k, rfl, DGet.t hw ht, ?_⟩
    rw [isSome_V k hk rr]
    exact p.here R (RD.bl.mpr rfl)
  · exact p.elim
theorem me_tget (hu : C.X.A.units + 1 < cLine) (ha : ME C a ma) (hb : ME C b mb) (hs : NoSl b := by intro _ _; rfl) : ME C (.Subscript a b pos) (eOp oTGet ma mb) := by
  obtain ⟨ta, pa, sa⟩ := ha
  obtain ⟨tb, pb, sb⟩ := hb
  exact ⟨_, pe_dget hu pa pb hs, sa.op sb os_tget⟩
theorem me_tin (hu : C.X.A.units + 1 < cLine) (ha : ME C a ma) (hb : ME C b mb) (hm : behindInMarks .In b = false := by rfl) : ME C (.Compare a [.In] [b] pos) (eOp oTIn ma mb) := by
  obtain ⟨ta, pa, sa⟩ := ha
  obtain ⟨tb, pb, sb⟩ := hb
  exact ⟨_, pe_cmp (pc_din hu pa pb) hm, sa.op sb os_tin⟩
theorem me_tnotin (hu : C.X.A.units + 1 < cLine) (ha : ME C a ma) (hb : ME C b mb) (hm : behindInMarks .NotIn b = false := by rfl) : ME C (.Compare a [.NotIn] [b] pos) (eOp oTNotIn ma mb) := by
  obtain ⟨ta, pa, sa⟩ := ha
  obtain ⟨tb, pb, sb⟩ := hb
  exact ⟨_, pe_cmp (pc_dnotin hu pa pb) hm, sa.op sb os_tnotin⟩
theorem mt_tin (hu : C.X.A.units + 1 < cLine) (ha : ME C a ma) (hb : ME C b mb) (hm : behindInMarks .In b = false := by rfl) : MT C (.Compare a [.In] [b] pos) (eOp oTIn ma mb) := by
  obtain ⟨ta, pa, sa⟩ := ha
  obtain ⟨tb, pb, sb⟩ := hb
  exact ⟨_, pt_cmp (pc_din hu pa pb) hm, (sa.op sb os_tin).test⟩
theorem mt_tnotin (hu : C.X.A.units + 1 < cLine) (ha : ME C a ma) (hb : ME C b mb) (hm : behindInMarks .NotIn b = false := by rfl) : MT C (.Compare a [.NotIn] [b] pos) (eOp oTNotIn ma mb) := by
  obtain ⟨ta, pa, sa⟩ := ha
  obtain ⟨tb, pb, sb⟩ := hb
  exact ⟨_, pt_cmp (pc_dnotin hu pa pb) hm, (sa.op sb os_tnotin).test⟩
theorem ss_dictT : SetS C rSetD putT := by
  intro ι h H x y z d1 d2 d3 h' Q R r1 r2 r3 e k
  unfold putT at e
  split at e
  · rename_i r kvs key e2 e1
    split at e
    · rename_i hl
      cases e
      obtain ⟨i, ws, ei, hi, rfl, hw, hk, rr⟩ := dictT_rel R r1 e1
      cases ei
      obtain ⟨t, rfl, ht⟩ := tupK_rel r2 e2
      have ll : ws.length < sizeLine := by
        have := congrArg List.length hk
        rw [List.length_map, List.length_map] at this
        omega
      refine ⟨ι r, _, rfl, DPut.t hw ht ll, ?_⟩
      refine k ι _ (by rw [List.length_set]; exact Ext.put R hi) (R.put hi fun xx => ⟨_, upd_same, ?_⟩)
      obtain ⟨s1, s2⟩ := setG_V key hk rr r3
      exact ⟨s1, s2.mono (xx.grow R)⟩
    · cases e
  · cases e
theorem me_dictT : ME C (.Dict [] [] pos) eDictT := by
  refine ⟨_, pe_dnewT, ⟨fun env h σ H ι Q R V p => fun a ha => ?_⟩⟩
  have el : (h ++ [AO.dT []]).length = h.length + 1 := by simp
  have x : Ext ι h.length H (ιset ι h.length a) (h.length + 1) (upd H a (.dT [])) := Ext.new ha
  refine p (ιset ι h.length a) _ (.ref a) (by rw [el]; exact x) (R.new ha fun x => ⟨[], upd_same, rfl, RDs.nil'⟩) ?_
  rw [el]
  exact RD.ref.mpr ⟨Nat.lt_succ_self _, by rw [ιset_same]⟩
end
/-! ### d.pop(k, x) -/
def isDict (h : AH) (d : D) : Bool := (dictOf h d).isSome
def oPop2 (a b z : D) (h : AH) : ER := match a, dictOf h a, keyD b with
  | .ref r, some kvs, some k => (match valG kvs k with
    | some d => .ok d (h.set r (.dK (dropG kvs k)))
    | none => .ok z h)
  | _, _, _ => .stuck
def ePop2 (a b z : EM) : EM := fun env h => (a env h).then fun d1 h1 => if isDict h1 d1 then (b env h1).then fun d2 h2 => (z env h2).then fun d3 h3 => oPop2 d1 d2 d3 h3 else .stuck
theorem me_pop2 {C : Ct} {o e f : Expr} {mo me mf : EM} {apos cpos : Pos} (ho : ME C o mo) (he : ME C e me) (hf : ME C f mf) (m : M2 C.X o "pop" apos e f cpos := by exact ⟨rfl, rfl, rfl, rfl⟩) : ME C (.Call (.Attribute o "pop" apos) [e, f] [] cpos) (ePop2 mo me mf) := by
  obtain ⟨to, po, so⟩ := ho
  obtain ⟨te, pe, se⟩ := he
  obtain ⟨tf, pf, sf⟩ := hf
  refine ⟨_, pe_dpop2 po pe pf m, ⟨fun env h σ H ι Q R V p => ?_⟩⟩
  refine so.then R V p fun d1 h1 ι1 H1 v1 x1 R1 V1 r1 p1 => ?_
  split at p1
  · rename_i hd
    obtain ⟨kvs, hkvs⟩ := Option.isSome_iff_exists.mp hd
    obtain ⟨i, ws, rfl, hi, rfl, hw, hk, rr⟩ := dictOf_rel R1 r1 hkvs
    refine ⟨ι1 i, rfl, .inl ⟨ws, .inl hw⟩, ?_⟩
    refine se.then R1 V1 p1 fun d2 h2 ι2 H2 v2 x2 R2 V2 r2 p2 => ?_
    refine sf.then R2 V2 p2 fun d3 h3 ι3 H3 v3 x3 R3 V3 r3 p3 => ?_
    unfold oPop2 at p3
    have r1' := (r1.mono (x2.grow R1)).mono (x3.grow R2)
    have r2' := r2.mono (x3.grow R2)
    split at p3
    · rename_i r kvs3 k e0 e1 e2
      cases e0
      obtain ⟨j, ws3, ej, hj, ev, hw3, hk3, rr3⟩ := dictOf_rel R3 r1' e1
      cases ej
      have ei : ι1 i = ι3 i := by injection ev
      refine ⟨ws3, k, by rw [ei]; exact hw3, keyD_V r2' e2, fun v hv => ?_, fun hv => ?_⟩
      · rcases valG_V k hk3 rr3 with ⟨q1, q2⟩ | ⟨d, v', q1, q2, q3⟩
        · rw [q2] at hv; cases hv
        · rw [q2] at hv
          cases hv
          rw [q1] at p3
          obtain ⟨s1, s2⟩ := dropG_V k hk3 rr3
          have xx : Ext ι3 h3.length H3 ι3 h3.length (upd H3 (ι3 i) (.dK (dropK ws3 k))) := Ext.put R3 hj
          rw [ei]
          refine p3 ι3 _ _ (by rw [List.length_set]; exact xx) (R3.put hj fun xx => ⟨_, upd_same, s1, s2.mono (xx.grow R3)⟩) (by rw [List.length_set]; exact q3.mono (xx.grow R3))
      · rcases valG_V k hk3 rr3 with ⟨q1, q2⟩ | ⟨d, v', q1, q2, q3⟩
        · rw [q1] at p3; exact p3.here R3 r3
        · rw [q2] at hv; cases hv
    · exact p3.elim
  · exact p1.elim
/-! ### a[b] of a row or of a dict -/
noncomputable def oIxD (a b : D) (h : AH) : ER := if isDict h a = true then oDGet a b h else oIx a b h
theorem me_ixD {C : Ct} {a b : Expr} {ma mb : EM} {pos : Pos} (hu : C.X.A.units + 1 < cLine) (ha : ME C a ma) (hb : ME C b mb) (hs : NoSl b := by intro _ _; rfl) (hp : PlainIx b := by exact fun _ _ => rfl) : ME C (.Subscript a b pos) (eOp oIxD ma mb) := by
  obtain ⟨ta, pa, sa⟩ := ha
  obtain ⟨tb, pb, sb⟩ := hb
  have p1 := pe_ix (X := C.X) (pos := pos) ix_seq pa pb hp
  have p2 := pe_dget (X := C.X) (pos := pos) hu pa pb hs
  refine ⟨fun σ H Q => _ ∨ _, ⟨fun pins s σ H Q I h => h.elim (p1.run pins s σ H Q I) (p2.run pins s σ H Q I)⟩, ⟨fun env h σ H ι Q R V p => ?_⟩⟩
  have key : eOp oIxD ma mb env h = eOp oIx ma mb env h ∨ eOp oIxD ma mb env h = eOp oDGet ma mb env h := by
    unfold eOp
    cases ma env h with
    | exc c fs h1 => exact .inl rfl
    | stuck => exact .inl rfl
    | ok d1 h1 =>
      show ((mb env h1).then fun d2 h2 => oIxD d1 d2 h2) = ((mb env h1).then fun d2 h2 => oIx d1 d2 h2) ∨ ((mb env h1).then fun d2 h2 => oIxD d1 d2 h2) = ((mb env h1).then fun d2 h2 => oDGet d1 d2 h2)
      cases mb env h1 with
      | exc c fs h2 => exact .inl rfl
      | stuck => exact .inl rfl
      | ok d2 h2 =>
        show oIxD d1 d2 h2 = oIx d1 d2 h2 ∨ oIxD d1 d2 h2 = oDGet d1 d2 h2
        unfold oIxD
        by_cases q : isDict h2 d1 = true
        · exact .inr (if_pos q)
        · exact .inl (if_neg q)
  rcases key with k | k
  · rw [k] at p
    exact .inl ((sa.op sb os_ix).run env h σ H ι Q R V p)
  · rw [k] at p
    exact .inr ((sa.op sb os_dget).run env h σ H ι Q R V p)
/-! ### range(i, j, -1) -/
def rgD (i : Int) (n : Nat) : List D := (List.range n).map fun k => .int (i + (k : Nat) * (-1))
def RgB3 (i j : Int) : Prop := -(2 ^ 62) ≤ i ∧ i < 2 ^ 62 ∧ -(2 ^ 62) ≤ j ∧ j < 2 ^ 62
noncomputable instance {i j : Int} : Decidable (RgB3 i j) := Classical.propDecidable _
noncomputable def iRangeD (l : LM) : IM := fun e h => match l e h with
  | .ok [.int i, .int j, .int c] h1 => if RgB3 i j ∧ c = -1 then .ok (stat (rgD i (i - j).toNat)) h1 else .stuck
  | .ok _ _ => .stuck
  | .exc c fs h1 => .exc c fs h1
  | .stuck => .stuck
theorem itr_rangeD {K : PySem.W.Frag} {ι : Nat → Addr} {n m : Nat} {H : Hp} {i : Int} : ItR K (Itc i (-1) m) (stat (rgD i m)) ι n H := by
  refine itr_stat fun k ι' h' H' x R => ⟨fun e => ?_, fun d e => ?_⟩
  · have := List.getElem?_eq_none_iff.mp e
    simpa [rgD, Itc] using this
  · have hk : k < m := by have := (List.getElem?_eq_some_iff.mp e).1; simpa [rgD] using this
    unfold rgD at e
    rw [List.getElem?_map, List.getElem?_range hk] at e
    have e := Option.some.inj e
    subst e
    refine ⟨hk, fun y H2 hy => ?_⟩
    obtain ⟨rfl, rfl⟩ := hy
    exact ⟨ι', .refl, R, RD.int.mpr rfl⟩
theorem mi_rangeD {C : Ct} {tg a b c : Expr} {ml : LM} {p pos : Pos} (hm : C.X.mg "range" = none) (ha : MA C [a, b, c] ml) (hg : Gl C.X "range" := by rfl) (hs : starEach [a, b, c] C.X.env = (false, eval a C.X.env) :: starEach [b, c] C.X.env := by rfl) (hpl : (backTo pos (starEach [b, c] C.X.env)).any (·.1) = false := by rfl) : MI C tg (.Call (.Name "range" p) [a, b, c] [] pos) (iRangeD ml) := by
  obtain ⟨t, pa, sa⟩ := ha
  refine ⟨_, pi_range3 hg hm pa hs hpl, ⟨fun env h σ H ι Q R V p => ?_⟩⟩
  refine sa.run env h σ H ι _ R V ?_
  unfold iRangeD at p
  cases hm : ml env h with
  | exc c fs h1 => rw [hm] at p; exact p
  | stuck => rw [hm] at p; exact p
  | ok ds h1 =>
    rw [hm] at p
    split at p
    · rename_i i j c h1' e
      injection e with e1 e2
      subst e1 e2
      split at p
      · rename_i hj
        obtain ⟨⟨j1, j2, j3, j4⟩, rfl⟩ := hj
        refine fun ι' H' vs x R' r => ?_
        obtain ⟨v1, r1, rfl, q1, rr⟩ := RDs.cons.mp r
        obtain ⟨v2, r2, rfl, q2, rr⟩ := RDs.cons.mp rr
        obtain ⟨v3, r3, rfl, q3, rr⟩ := RDs.cons.mp rr
        rw [RDs.nil.mp rr, RD.int.mp q1, RD.int.mp q2, RD.int.mp q3]
        exact ⟨i, j, -1, _, rfl, RgC.neg j1 j2 j3 j4, p.here x R' itr_rangeD⟩
      · exact p.elim
    · rename_i e; cases e; exact p.elim
    · rename_i e; cases e
    · rename_i e; cases e
end Rf

set_option maxHeartbeats 1000000
/-! t.index(x) of a tuple -/
namespace Rf
open PySem PySem.Spec PyProof.Rows L2
section
variable {X : Cx}
def rIndexT (K : PySem.W.Frag) : V → List V → Hp → VK → Prop := fun x xs H Q => ∃ (a : Addr) (y : V) (d : PyData) (ds : List PyData) (j : Nat) (z : PyData), x = V.ref a ∧ xs = [y] ∧ Dp K H (V.ref a) (.tuple ds) ∧ Dp K H y d ∧
  SeqAt.shaped (.tuple ds) = true ∧ SeqAt.shaped d = true ∧ ds[j]? = some z ∧ PyData.eqv z d = true ∧ (∀ (m : Nat) (z' : PyData), m < j → ds[m]? = some z' → PyData.eqv z' d = false) ∧ Q (.int (j : Nat)) H
theorem mt_indexT (hu : X.A.units + 65 < cLine) : MtR X "tuple.index" (rIndexT X.K) := by
  intro pins s σ H x xs v us Q I rx rxs h
  obtain ⟨a, y, d, ds, j, z, rfl, rfl, hl, hy, sl, sd, hz, hzj, hno, q⟩ := h
  cases rx
  cases rxs with
  | cons ry rt =>
    rename_i uy ut
    cases rt
    obtain ⟨bs, r1⟩ := Dp.reads I d y uy hy ry
    have hxs : PyData.canLayAll0 ds = true := SeqAt.canLay_of_shaped sl
    have hroom : X.A.units + 1 + min (PyData.depthAll ds) d.depth < cLine := room_in_shaped sd hu
    cases hl with
    | tup hs ha =>
      obtain ⟨its, rv, ht, hlen⟩ := I.tuple hs
      obtain ⟨⟨cls, dd, data, sls⟩, ho, hc, n, hdt⟩ := id ht
      simp only at hc hdt
      subst hc hdt
      obtain ⟨as, h4⟩ := Dp.readsAll I ds _ its ha rv
      have hn : its.length = ds.length := SeqAt.ReadsAll.length ds its as h4
      have hmap : its.map (SeqAt.readOf s.heap) = ds := SeqAt.readsAll_map ds its as hxs h4
      obtain ⟨hjd, _⟩ := List.getElem?_eq_some_iff.mp hz
      have hjl : j < its.length := by omega
      have hj : j < its.toArray.size := by simpa using hjl
      have at_ : ∀ (m : Nat) (hm : m < its.toArray.size) (z' : PyData), ds[m]? = some z' → SeqAt.readOf s.heap its.toArray[m] = z' := by
        intro m hm z' hz'
        have hml : m < its.length := by simpa using hm
        rw [← hmap, List.getElem?_map, List.getElem?_eq_getElem hml] at hz'
        have e1 : SeqAt.readOf s.heap its[m] = z' := Option.some.inj (show some (SeqAt.readOf s.heap its[m]) = some z' from hz')
        simpa using e1
      refine call_meets PySem.F.slot_tuple_index ⟨_, ho, rfl⟩ PySem.F.entry_tuple_index (PySem.F.args_tuple_index_2 _ _)
        (TI.tuple_indexAt a its.toArray n dd sls uy (fun u => PyData.eqv (SeqAt.readOf s.heap u) d) j hj ?_ ?_) ⟨ho, SeqAt.items_eqAt (vs := its.toArray) (show ReadsAll s.heap its.toArray.toList ds as from h4) r1 hxs (SeqAt.canLay_of_shaped sd) hroom, ?_⟩
      · show PyData.eqv (SeqAt.readOf s.heap its.toArray[j]) d = true
        rw [at_ j hj z hz]
        exact hzj
      · intro m hm hmj
        have hmd : m < ds.length := by omega
        have hz' : ds[m]? = some ds[m] := List.getElem?_eq_getElem hmd
        show PyData.eqv (SeqAt.readOf s.heap its.toArray[m]) d = false
        rw [at_ m hm _ hz']
        exact hno m _ hmj hz'
      · exact ⟨.int (j : Nat), H, I.tok _, ⟨_, rfl⟩, q⟩
end
section
variable {X : Cx} {o e : Expr} {es : List Expr} {to : TE} {t : TA} {name : Str} {apos cpos : Pos} {id : String} {r : V → List V → Hp → VK → Prop}
def tKT (r : V → List V → Hp → VK → Prop) (to : TE) (t : TA) : TE := fun σ H Q => to σ H fun x H1 => (∃ a vs, x = .ref a ∧ KtL H1 a vs) ∧ t σ H1 fun xs H2 => r x xs H2 Q
/-- a method of a tuple whose object is known -/
theorem pe_kt (slot : Slot "tuple" name id) (hty : typeOf (.builtin id) = pure (.type "method_descriptor")) (hm : MtR X id r) (ho : PE X o to) (ha : PA X (e :: es) t)
    (hbase : attributeBase o name X.env (eval o X.env) = eval o X.env := by rfl)
    (hfew : ((backTo cpos (starEach (e :: es) X.env)).all (fun x => !x.1) && (backToKw cpos (keywordEach [] X.env)).all (fun x => x.1.isSome)
      && decide ((e :: es).length + ([] : List Keyword).length + (if ([] : List Keyword).isEmpty then 0 else 1) < 30)) = true := by rfl)
    (hline : (apos.endLine == cpos.line) = true := by rfl) (hs : starEach (e :: es) X.env = (false, eval e X.env) :: starEach es X.env := by rfl) (hplain : (backTo cpos (starEach es X.env)).any (·.1) = false := by rfl) :
    PE X (.Call (.Attribute o name apos) (e :: es) [] cpos) (tKT r to t) := by
  refine ⟨fun pins s σ H Q I h => ?_⟩
  refine wpAny_Call_method_late hbase hfew hline rfl (thn (ho.run pins s σ H _ I h) fun v s1 ⟨x, H1, I1, r1, ty, q1⟩ => ?_)
  obtain ⟨a, vs, rfl, ob, hob, hd⟩ := ty
  obtain ⟨e1, _, its, _, p⟩ := I1.hok a _ hob
  cases r1
  refine ⟨"tuple", id, PySem.F.plainAttrs_tuple, slot, hty, p.typeIs, (fun b eb => by cases eb; exact ⟨ob, e1, hd⟩), ?_⟩
  have hA := ha.run cpos pins s1 σ H1 _ I1 q1
  rw [hs] at hA ⊢
  refine Calls.callWith_builtin (by show (false || (backTo cpos (starEach es X.env)).any (·.1)) = false; rw [hplain] <;> rfl) (Calls.evalArgs_plain ?_)
  exact thn hA fun us s2 ⟨vs, H2, I2, r2, q2⟩ => hm pins s2 σ H2 _ vs _ us Q I2 (show RelV (V.ref a) (Value.ref a) from rfl) r2 q2
/-- tuple(x) of a list, its object known -/
theorem call_tupleK_of : CallR X (.type "tuple") (fun xs H Q => ∃ p ys, xs = [.ref p] ∧ SqL X.K H p ys ∧ ∀ (l : Addr) (o : Obj), H l = none → o.dict = none → Q (.ref l) (upd H l (.frz o (.tup ys)))) := by
  intro pins s σ H xs us Q I r h
  obtain ⟨p, ys, rfl, hq, q⟩ := h
  obtain ⟨u, rfl, rx⟩ := vals1 r
  cases rx
  obtain ⟨its, r', pl, hz⟩ := I.list hq
  have hlen := r'.length
  refine call_tuple_list pl.isList (fun h' kp => ?_) (by simp only [List.size_toArray] <;> omega)
  have I1 : Inv X pins σ H { s with heap := h' } := I.kept (t' := s.toks) kp
  have I2 : Inv X pins σ (upd H h'.objs.size (.frz { cls := .type "tuple", data := .seq its.toArray } (.tup ys))) { s with heap := h'.push { cls := .type "tuple", data := .seq its.toArray } } :=
    I1.laid (t' := s.toks) (fun b o e => Heap.get?_push_of_some _ e) (Nat.le_refl _) (show ObjOk X.prog X.w _ _ _ (.frz _ (.tup ys)) from ⟨Heap.get?_push_size _ rfl, hz, its, r', IsTup.new _ _⟩)
  exact ⟨.ref h'.objs.size, _, I2, rfl, q _ _ (I1.hok.fresh (Nat.le_refl _)) rfl⟩
end
def mIndexT (d : D) (ds : List D) (h : AH) : ER := match d, ds with
  | .kt es, [y] => (match (D.kt es).toP h 20, y.toP h 20 with
    | some (.tuple ps), some p => (match firstAt p ps with
      | some j => .ok (.int (j : Nat)) h
      | none => .stuck)
    | _, _ => .stuck)
  | _, _ => .stuck
def cTupleK (ds : List D) (h : AH) : ER := match ds with
  | [d] => (match listOf h d with
    | some es => .ok (.kt es) h
    | none => .stuck)
  | _ => .stuck
section
variable {C : Ct}
theorem cs_tupleK : CallS C (fun xs H Q => ∃ p ys, xs = [.ref p] ∧ SqL C.X.K H p ys ∧ ∀ (l : Addr) (o : Obj), H l = none → o.dict = none → Q (.ref l) (upd H l (.frz o (.tup ys)))) cTupleK := by
  intro ι h H σ xs ds Q R r p
  unfold cTupleK at p
  split at p
  · rename_i d
    obtain ⟨v, rfl, q1⟩ := r.one
    split at p
    · rename_i es e
      obtain ⟨a, vs, rfl, s, rr⟩ := listOf_sq R q1 e
      refine ⟨a, vs, rfl, s, fun l o hl hd => ?_⟩
      have x : Ext ι h.length H ι h.length (upd H l (.frz o (.tup vs))) := Ext.tup hl
      exact p ι _ (.ref l) x (R.tup hl x) (RD.kt.mpr ⟨l, vs, rfl, ⟨o, upd_same, hd⟩, rr.mono (x.grow R)⟩)
    · exact p.elim
  · exact p.elim
theorem ms_indexT : MtS C (rIndexT C.X.K) mIndexT := by
  intro ι h H σ x xs d ds Q R r rs p
  unfold mIndexT at p
  split at p
  · rename_i es y
    split at p
    · rename_i ps q e1 e2
      split at p
      · rename_i j ej
        obtain ⟨w, rfl, rw_⟩ := rs.one
        obtain ⟨a1, a2, a3⟩ := toP_dp R _ _ _ _ r e1
        obtain ⟨b1, b2, b3⟩ := toP_dp R _ _ _ _ rw_ e2
        obtain ⟨z, z1, z2, z3⟩ := firstAt_spec ej
        obtain ⟨a, vs, rfl, _⟩ := RD.kt.mp r
        exact ⟨_, w, q, ps, j, z, rfl, rfl, a1, b1, toP_shaped a2 a3, toP_shaped b2 b3, z1, z2, z3, p.here R (RD.int.mpr rfl)⟩
      · exact p.elim
    · exact p.elim
  · exact p.elim
/-- a known tuple as a plain one -/
def unK : D → D
  | .kt ds => .tup ds
  | d => d
theorem RD.unK {K : PySem.W.Frag} {ι : Nat → Addr} {n : Nat} {H : Hp} {d : D} {v : V} (r : RD K ι n H d v) : RD K ι n H (unK d) v := by
  cases d with
  | kt ds =>
    obtain ⟨a, vs, e, q, rr⟩ := RD.kt.mp r
    exact RD.tupX.mpr ⟨a, vs, e, .inr q, rr⟩
  | _ => exact r
def eAsT (m : EM) : EM := fun env h => (m env h).then fun d h1 => .ok (unK d) h1
@[simp] theorem eAsT_ (m : EM) (env : AE) (h : AH) : eAsT m env h = (m env h).then fun d h1 => .ok (unK d) h1 := rfl
@[simp] theorem unK_kt (ds : List D) : unK (.kt ds) = .tup ds := rfl
@[simp] theorem unK_tup (ds : List D) : unK (.tup ds) = .tup ds := rfl
theorem me_asT {e : Expr} {m : EM} (he : ME C e m) : ME C e (eAsT m) := by
  obtain ⟨t, p, s⟩ := he
  refine ⟨t, p, ⟨fun env h σ H ι Q R V q => ?_⟩⟩
  refine s.run env h σ H ι Q R V ?_
  unfold eAsT at q
  cases hm : m env h with
  | exc c fs h1 => rw [hm] at q; exact q
  | stuck => rw [hm] at q; exact q
  | ok d h1 =>
    rw [hm] at q
    exact fun ι' H' v x R' r => q ι' H' v x R' r.unK
def isKt : D → Bool
  | .kt _ => true
  | _ => false
def eMethT (g : D → List D → AH → ER) (o : EM) (l : LM) : EM := fun env h => (o env h).then fun d h1 => if isKt d then (l env h1).then fun ds h2 => g d ds h2 else .stuck
@[simp] theorem eMethT_ (g : D → List D → AH → ER) (o : EM) (l : LM) (env : AE) (h : AH) : eMethT g o l env h = (o env h).then fun d h1 => if isKt d then (l env h1).then fun ds h2 => g d ds h2 else .stuck := rfl
@[simp] theorem isKt_kt (ds : List D) : isKt (.kt ds) = true := rfl
theorem me_methT {o e : Expr} {es : List Expr} {mo : EM} {ml : LM} {name : Str} {apos cpos : Pos} {id : String} {r : V → List V → Hp → VK → Prop} {g : D → List D → AH → ER}
    (slot : Slot "tuple" name id) (hty : typeOf (.builtin id) = pure (.type "method_descriptor")) (hm : MtR C.X id r) (hs : MtS C r g) (ho : ME C o mo) (ha : MA C (e :: es) ml)
    (hbase : attributeBase o name C.X.env (eval o C.X.env) = eval o C.X.env := by rfl)
    (hfew : ((backTo cpos (starEach (e :: es) C.X.env)).all (fun x => !x.1) && (backToKw cpos (keywordEach [] C.X.env)).all (fun x => x.1.isSome)
      && decide ((e :: es).length + ([] : List Keyword).length + (if ([] : List Keyword).isEmpty then 0 else 1) < 30)) = true := by rfl)
    (hline : (apos.endLine == cpos.line) = true := by rfl) (hst : starEach (e :: es) C.X.env = (false, eval e C.X.env) :: starEach es C.X.env := by rfl) (hplain : (backTo cpos (starEach es C.X.env)).any (·.1) = false := by rfl) :
    ME C (.Call (.Attribute o name apos) (e :: es) [] cpos) (eMethT g mo ml) := by
  obtain ⟨t, p, s⟩ := ho
  obtain ⟨tl, pl, sl⟩ := ha
  refine ⟨_, pe_kt slot hty hm p pl hbase hfew hline hst hplain, ⟨fun env h σ H ι Q R V p => ?_⟩⟩
  refine s.then R V p fun d h1 ι1 H1 v x1 R1 V1 r1 p1 => ?_
  by_cases hk : isKt d = true
  · rw [if_pos hk] at p1
    cases d with
    | kt es =>
      obtain ⟨a, vs, rfl, ha, _⟩ := RD.kt.mp r1
      refine ⟨⟨a, vs, rfl, ha⟩, ?_⟩
      refine sl.then R1 V1 p1 fun ds h2 ι2 H2 vs x2 R2 V2 r2 p2 => ?_
      exact hs ι2 h2 H2 σ _ vs _ ds Q R2 (r1.mono (x2.grow R1)) r2 p2
    | _ => cases hk
  · rw [if_neg hk] at p1; exact p1.elim
end
end Rf

set_option maxHeartbeats 1000000
/-! a dict locked while its values are walked: [.. for row in d.values()] -/
namespace Rf
open PySem PySem.Spec PyProof.Rows L2
open Classical in
noncomputable def liveD (r : Nat) (kvs : List (Key × D)) (od : Obj) (ws : List (Key × V)) : AIt := ⟨kvs.length, fun i h => if h[r]? = some (.lk kvs od ws) then some ((kvs[i]?).map (·.2)) else none⟩
noncomputable def iDVals (m : EM) : IM := fun e h => match m e h with
  | .ok (.ref r) h1 => (match h1[r]? with
    | some (.lk kvs od ws) => .ok (liveD r kvs od ws) h1
    | _ => .stuck)
  | .ok _ _ => .stuck
  | .exc c fs h1 => .exc c fs h1
  | .stuck => .stuck
theorem itr_liveD {K : PySem.W.Frag} {ι : Nat → Addr} {n r : Nat} {H : Hp} {kvs : List (Key × D)} {od : Obj} {ws : List (Key × V)} (hr : r < n) : ItR K (Itd (ι r) od ws) (liveD r kvs od ws) ι n H := by
  intro i ι' h' H' x R
  have eι := x.ag r hr
  unfold liveD
  dsimp only
  by_cases q : h'[r]? = some (.lk kvs od ws)
  · rw [if_pos q]
    obtain ⟨e1, k, rr⟩ := R.ob r _ q
    rw [eι] at e1
    have ln : kvs.length = ws.length := by
      have := congrArg List.length k
      rwa [List.length_map, List.length_map] at this
    refine ⟨fun e => ⟨e1, ?_⟩, fun d e => ?_⟩
    · have e := Option.some.inj e
      rw [Option.map_eq_none_iff] at e
      have := List.getElem?_eq_none_iff.mp e
      omega
    · have e := Option.some.inj e
      have hi : i < kvs.length := by
        cases qi : kvs[i]? with
        | none => rw [qi] at e; cases e
        | some z => exact (List.getElem?_eq_some_iff.mp qi).1
      refine ⟨⟨e1, by omega⟩, fun y H2 hy => ?_⟩
      obtain ⟨rfl, kk, hy⟩ := hy
      have e' : (kvs.map (·.2))[i]? = some d := by rw [List.getElem?_map]; exact e
      obtain ⟨v, ev, rv⟩ := rr.get e'
      rw [List.getElem?_map, hy] at ev
      have ev : y = v := Option.some.inj ev
      subst ev
      exact ⟨ι', .refl, R, rv⟩
  · rw [if_neg q]
    exact ⟨(fun z => nomatch z), (fun d z => nomatch z)⟩
section
variable {C : Ct} {tg e : Expr} {m : EM} {apos cpos : Pos}
theorem mi_dvals (ha : ME C e m) (hbase : attributeBase e "values" C.X.env (eval e C.X.env) = eval e C.X.env := by rfl) (hline : (apos.endLine == cpos.line) = true := by rfl) : MI C tg (.Call (.Attribute e "values" apos) [] [] cpos) (iDVals m) := by
  obtain ⟨t, pa, sa⟩ := ha
  refine ⟨_, pi_values pa hbase hline, ⟨fun env h σ H ι Q R V p => ?_⟩⟩
  refine sa.run env h σ H ι _ R V ?_
  unfold iDVals at p
  cases hm : m env h with
  | exc c fs h1 => rw [hm] at p; exact p
  | stuck => rw [hm] at p; exact p
  | ok d h1 =>
    rw [hm] at p
    split at p
    · rename_i r h1' e
      injection e with e1 e2
      subst e1 e2
      split at p
      · rename_i kvs od ws e2
        refine fun ι' H' v x R' r' => ?_
        obtain ⟨hr, rfl⟩ := RD.ref.mp r'
        obtain ⟨q1, q2, q3⟩ := R'.ob r _ e2
        exact ⟨ι' r, od, ws, rfl, q1, p.here x R' (itr_liveD hr)⟩
      · exact p.elim
    · exact p.elim
    · rename_i e; cases e
    · rename_i e; cases e
open Classical in
noncomputable def eLockV (i : Nat) (m : EM) : EM := fun env h => match env[i]? with
  | some (some (.ref r)) => (match h[r]? with
    | some (.dK kvs) => if hx : ∃ p : D × AH, r < p.2.length ∧ ∀ od ws, m env (h.set r (.lk kvs od ws)) = .ok p.1 (p.2.set r (.lk kvs od ws)) then .ok hx.choose.1 (hx.choose.2.set r (.dK kvs)) else .stuck
    | _ => .stuck)
  | _ => .stuck
theorem eLockV_eq {i r : Nat} {env : AE} {h h1 : AH} {kvs : List (Key × D)} {d : D} (he : env[i]? = some (some (.ref r))) (hr : h[r]? = some (.dK kvs)) (hl : r < h1.length) (hm : ∀ od ws, m env (h.set r (.lk kvs od ws)) = .ok d (h1.set r (.lk kvs od ws))) :
    eLockV i m env h = .ok d (h1.set r (.dK kvs)) := by
  have hx : ∃ p : D × AH, r < p.2.length ∧ ∀ od ws, m env (h.set r (.lk kvs od ws)) = .ok p.1 (p.2.set r (.lk kvs od ws)) := ⟨(d, h1), hl, hm⟩
  unfold eLockV
  rw [he]
  dsimp only
  rw [hr]
  dsimp only
  rw [dif_pos hx]
  have s := hx.choose_spec.2 { cls := .none, data := .fields #[] } []
  rw [hm] at s
  injection s with s1 s2
  have s3 := congrArg (fun l : AH => l.set r (.dK kvs)) s2
  simp only [List.set_set] at s3
  rw [← s1, ← s3]
theorem me_lock {i : Nat} (ha : ME C e m) : ME C e (eLockV i m) := by
  obtain ⟨t, p, s⟩ := ha
  refine ⟨_, pe_lock p, ⟨fun env h σ H ι Q R V post => ?_⟩⟩
  unfold eLockV at post
  split at post
  · rename_i r er
    split at post
    · rename_i kvs hr
      split at post
      · rename_i hx
        have hrl := (List.getElem?_eq_some_iff.mp hr).1
        obtain ⟨ws, e1, k, rr⟩ := R.ob r _ hr
        refine ⟨ι r, .dK ws, e1, trivial, fun od => ?_⟩
        obtain ⟨pl, ps⟩ := hx.choose_spec
        generalize hx.choose = pp at *
        have x0 : Ext ι h.length H ι h.length (upd H (ι r) (.frz od (.dK ws))) := Ext.put R hrl
        have R1 : Rel C.X.K ι (h.set r (.lk kvs od ws)) (upd H (ι r) (.frz od (.dK ws))) := R.put hrl fun xx => ⟨upd_same, k, rr.mono (xx.grow R)⟩
        have V1 : RV C ι (h.set r (.lk kvs od ws)).length (upd H (ι r) (.frz od (.dK ws))) env σ := by rw [List.length_set]; exact RV.ext R x0 V
        refine s.run env _ σ _ ι _ R1 V1 ?_
        rw [ps od ws]
        refine fun ι' H' v x R' rv => ?_
        rw [List.length_set] at x
        have gr : (pp.2.set r (.lk kvs od ws))[r]? = some (.lk kvs od ws) := List.getElem?_set_self pl
        obtain ⟨q1, q2, q3⟩ := R'.ob r _ gr
        have eι := x.ag r hrl
        rw [eι] at q1
        refine ⟨q1, ?_⟩
        have hrl' : r < (pp.2.set r (.lk kvs od ws)).length := by rw [List.length_set]; exact pl
        have x2 : Ext ι' (pp.2.set r (.lk kvs od ws)).length H' ι' (pp.2.set r (.lk kvs od ws)).length (upd H' (ι' r) (.dK ws)) := Ext.put R' hrl'
        have R2 : Rel C.X.K ι' ((pp.2.set r (.lk kvs od ws)).set r (.dK kvs)) (upd H' (ι' r) (.dK ws)) := R'.put hrl' fun xx => ⟨ws, upd_same, q2, q3.mono (xx.grow R')⟩
        rw [List.set_set] at R2
        rw [← eι]
        refine post ι' _ v ?_ R2 ?_
        · have := x0.trans (x.trans x2)
          simpa using this
        · have := rv.mono (x2.grow R')
          simpa using this
      · exact post.elim
    · exact post.elim
  · exact post.elim
end
end Rf

set_option maxHeartbeats 1000000
/-! min(t) of a tuple of ints, besides min(xs) of a list -/
namespace Rf
open PySem PySem.Spec PyProof.Rows L2
section
variable {X : Cx}
theorem minOf_spec : ∀ (xs : List Int) (x : Int), W.minOf x xs ∈ x :: xs ∧ ∀ y ∈ x :: xs, W.minOf x xs ≤ y
  | [], x => ⟨by simp [W.minOf], fun y hy => by simp at hy; subst hy; simp [W.minOf]⟩
  | a :: xs, x => by
    have e : W.minOf x (a :: xs) = W.minOf (if W.DatumOrd.lt a x = true then a else x) xs := rfl
    have l : (W.DatumOrd.lt a x = true) = (a < x) := by
      show (decide (a < x) = true) = (a < x)
      simp
    rw [e]
    by_cases c : a < x
    · rw [if_pos (by rw [l]; exact c)]
      obtain ⟨h1, h2⟩ := minOf_spec xs a
      refine ⟨List.mem_cons_of_mem _ h1, fun y hy => ?_⟩
      rcases List.mem_cons.mp hy with rfl | hy
      · have := h2 a (by simp); omega
      · exact h2 y hy
    · rw [if_neg (by rw [l]; exact c)]
      obtain ⟨h1, h2⟩ := minOf_spec xs x
      refine ⟨?_, fun y hy => ?_⟩
      · rcases List.mem_cons.mp h1 with h | h
        · rw [h]; simp
        · exact List.mem_cons_of_mem _ (List.mem_cons_of_mem _ h)
      · rcases List.mem_cons.mp hy with rfl | hy
        · exact h2 _ (by simp)
        · rcases List.mem_cons.mp hy with rfl | hy
          · have := h2 x (by simp); omega
          · exact h2 y (by simp [hy])
theorem holdAll_ints {h : Heap} {us : List Value} {ns : List Int} (r : IntsAre us ns) : W.HoldAll h us ns := by
  induction r with
  | nil => exact ⟨[], .nil⟩
  | cons n t r ih =>
    obtain ⟨as, q⟩ := ih
    exact ⟨[] ++ as, .cons (.int n t) q⟩
def rMinT (K : PySem.W.Frag) : List V → Hp → VK → Prop := fun vs H Q => ∃ (a : Addr) (ns : List Int), vs = [V.ref a] ∧ SqT K H a (ns.map V.int) ∧ 0 < ns.length ∧ ∀ m, m ∈ ns → (∀ y, y ∈ ns → m ≤ y) → Q (.int m) H
theorem cr_minT (hc : X.calm = true) (hu : X.A.units + 65 < cLine) : CallR X (.builtin "min") (rMinT X.K) := by
  intro pins s σ H vs us Q I r h
  obtain ⟨a, ns, rfl, hs, hne, q⟩ := h
  obtain ⟨its, rv, hl, _⟩ := I.tuple hs
  rw [Vals.ref1 r]
  cases ns with
  | nil => exact absurd hne (by simp)
  | cons x xs =>
    have ho := holdAll_ints (h := s.heap) rv.ints
    refine W.min_tuple_datum (α := Int) (I.ok.hd hc) hl ho (by show X.A.units + 1 + 0 < cLine; omega) fun i v h' tk hv hold hk => ?_
    obtain ⟨as, rd⟩ := hold
    cases rd
    obtain ⟨h1, h2⟩ := minOf_spec xs x
    exact ⟨.int _, H, I.kept hk, ⟨_, rfl⟩, q _ h1 h2⟩
def rMinA (K : PySem.W.Frag) : List V → Hp → VK → Prop := fun vs H Q => rMin K vs H Q ∨ rMinT K vs H Q
theorem cr_minA (hc : X.calm = true) (hu : X.A.units + 65 < cLine) : CallR X (.builtin "min") (rMinA X.K) := by
  intro pins s σ H vs us Q I r h
  rcases h with h | h
  · exact cr_min hc pins s σ H vs us Q I r h
  · exact cr_minT hc hu pins s σ H vs us Q I r h
end
noncomputable def cMinA (ds : List D) (h : AH) : ER := match ds with
  | [.tup es] => (match intsOf es with
    | some ns => if 0 < ns.length then .ok (.int (minI ns)) h else .stuck
    | none => .stuck)
  | ds => cMinL ds h
theorem cs_minA {C : Ct} : CallS C (rMinA C.X.K) cMinA := by
  intro ι h H σ xs ds Q R r p
  unfold cMinA at p
  split at p
  · rename_i es
    obtain ⟨v, rfl, q1⟩ := r.one
    split at p
    · rename_i ns e2
      split at p
      · rename_i hl
        obtain ⟨a, vs, rfl, s, rr⟩ := RD.tup.mp q1
        rw [intsOf_eq e2] at rr
        rw [rr.ints] at s
        refine .inr ⟨a, ns, rfl, s, hl, fun m hm hy => ?_⟩
        have : m = minI ns := Int.le_antisymm (hy _ (minI_mem hl)) (minI_le hm)
        rw [this]
        exact p.here R (RD.int.mpr rfl)
      · exact p.elim
    · exact p.elim
  · exact .inl (cs_minL ι h H σ xs _ Q R r p)
@[simp] theorem cMinA_ref (r : Nat) (h : AH) : cMinA [.ref r] h = cMinL [.ref r] h := rfl
theorem cMinA_tup {ns : List Int} (l : 0 < ns.length) (h : AH) : cMinA [.tup (ns.map D.int)] h = .ok (.int (minI ns)) h := by
  unfold cMinA
  simp only [intsOf_map]
  rw [if_pos l]
end Rf

set_option maxHeartbeats 1000000
/-! raise X() of an own error without fields and without an own __init__ -/
namespace Rf
open PySem PySem.Spec PyProof.Rows L2
abbrev bmVE : List Value := [.type "ValueError", .type "Exception", .type "BaseException", .type "object"]
section
variable {X : Cx} {C : Addr} {bmB : List Value} {B newId initId : String}
theorem pmk_own0 {x : Str} {p pos : Pos} (F : ExcBaseFacts B newId initId bmB) (q : PySem.W.excIn X.K C bmB newId = true) (gC : X.mg x = some (.ref C)) (kC : PySem.W.keepIn X.K (.ref C) = true) (r : Raises X (.ref C)) (hg : Gl X x)
    (hdb : (x == ("__debug__" : Str)) = false := by decide) : L2N.PMk X (.Call (.Name x p) [] [] pos) (fun _ H Q => Q (.ref C) none H) := by
  intro pins s σ H Q I h
  refine wpAny_Call_Name_kw (ld_glob I hg gC ?_ hdb)
  refine PySem.W.callWith_K0 I.kIn kC ?_
  show wpAny _ _ (call (.ref C) []) _ _ _
  obtain ⟨bm, N, nm, qn, bs, hdct, sn, sub, ab, col, dd, k0, k1, k2, k3, k5, mN, hC, hN, hni, T⟩ := exc_obj I.kIn q
  refine wpAny_call_exc_subT F T hC hN hni (fun h' e hm => ?_) (Nat.zero_le _)
  exact L2N.mk_of I hm r h (I.hok.gone hm.new)
end
/-- what the written part says of an own error without fields -/
structure ErrN (K : PySem.W.Frag) (mg : Str → Option Value) (x : Str) (Cl : Addr) : Prop where
  mgx : mg x = some (.ref Cl)
  ex : PySem.W.excIn K Cl bmVE "ValueError.__new__" = true
  kp : PySem.W.keepIn K (.ref Cl) = true
  sb : PySem.W.subIn K (.ref Cl) (.type "BaseException") = some true
  ty : PySem.W.typeIn K (.ref Cl) = some (.type "type")
  ec : ExcC K Cl
def sRaise0 (x : Str) : SM := fun env h => .exc x [] env h
@[simp] theorem sRaise0_ (x : Str) (env : AE) (h : AH) : sRaise0 x env h = .exc x [] env h := rfl
theorem ms_raise0 {C : Ct} {x : Str} {Cl : Addr} {p pos pos' : Pos} (EN : ErrN C.X.K C.X.mg x Cl) (hc : C.X.calm = true) (tk : L2N.Takes C.X C.W) (hg : Gl C.X x := by rfl) (hdb : (x == ("__debug__" : Str)) = false := by decide) :
    MS C (.Raise (some (.Call (.Name x p) [] [] pos)) none pos') (sRaise0 x) := by
  refine ⟨_, L2N.ps_raise hc tk (pmk_own0 PySem.F.excBase_ValueError EN.ex EN.mgx EN.kp (raises_own EN.sb EN.ty) hg hdb), ⟨fun env h σ H ι D R V q => ?_⟩⟩
  exact q ι H σ Cl none .refl R V EN.mgx rfl
end Rf

set_option maxHeartbeats 1000000
/-! sorted(xs) of a list of tuples of ints, all of one length -/
namespace Rf
open PySem PySem.Spec PyProof.Rows L2
def rSortX (K : PySem.W.Frag) : List V → Hp → VK → Prop := fun vs H Q => ∃ (d : Nat) (B : Int), 1 ≤ d ∧ rSortU K d B vs H Q
theorem cr_sortX {X : Cx} : CallR X (.builtin "sorted") (rSortX X.K) := by
  intro pins s σ H vs us Q I r h
  obtain ⟨d, B, hd, h⟩ := h
  exact cr_sortT hd pins s σ H vs us Q I r h
/-- rows of ints -/
def dI (r : List Int) : D := .tup (r.map D.int)
def rowI : D → Option (List Int)
  | .tup ds => intsOf ds
  | _ => none
theorem rowI_eq {d : D} {r : List Int} (e : rowI d = some r) : d = dI r := by
  cases d with
  | tup ds => exact congrArg D.tup (intsOf_eq e)
  | _ => cases e
theorem rowI_dI (r : List Int) : rowI (dI r) = some r := by
  show intsOf (r.map D.int) = some r
  simp
theorem code_inj : ∀ {a b : List Int}, a.length = b.length → TS.Bd 64 a → TS.Bd 64 b → TS.code 64 a = TS.code 64 b → a = b
  | [], [], _, _, _, _ => rfl
  | [], _ :: _, l, _, _, _ => by simp at l
  | _ :: _, [], l, _, _, _ => by simp at l
  | x :: a, y :: b, l, ha, hb, e => by
    have l' : a.length = b.length := by simpa using l
    rcases Int.lt_trichotomy x y with h | h | h
    · have := TS.code_lt l' ha.tail hb.tail h; omega
    · subst h
      have e' : TS.code 64 a = TS.code 64 b := by
        have e2 : x * 64 ^ a.length + TS.code 64 a = x * 64 ^ b.length + TS.code 64 b := e
        rw [l'] at e2; omega
      rw [code_inj l' ha.tail hb.tail e']
    · have := TS.code_lt l'.symm hb.tail ha.tail h; omega
noncomputable def rowSort (rs : List (List Int)) : List (List Int) := rs.mergeSort fun a b => decide (TS.code 64 a ≤ TS.code 64 b)
theorem rowSort_perm (rs : List (List Int)) : (rowSort rs).Perm rs := List.mergeSort_perm _ _
theorem rowSort_up (rs : List (List Int)) : (rowSort rs).Pairwise (fun a b => TS.code 64 a ≤ TS.code 64 b) := by
  have := List.pairwise_mergeSort (le := fun a b : List Int => decide (TS.code 64 a ≤ TS.code 64 b)) (fun a b c h1 h2 => by simp at *; omega) (fun a b => by simp; omega) rs
  exact this.imp fun h => by simpa using h
/-- rows that may be sorted -/
def RowsOK (rs : List (List Int)) : Prop := rs.length < 64 ∧ ∃ d : Nat, 1 ≤ d ∧ ∀ r ∈ rs, r.length = d ∧ TS.Bd 64 r
theorem rowSort_eq {rs ys : List (List Int)} (ok : RowsOK rs) (p : ys.Perm rs) (u : ys.Pairwise (fun a b => TS.code 64 a ≤ TS.code 64 b)) : ys = rowSort rs := by
  obtain ⟨_, d, _, hr⟩ := ok
  refine List.Perm.eq_of_pairwise (le := fun a b => TS.code 64 a ≤ TS.code 64 b) (fun a b ha hb h1 h2 => ?_) u (rowSort_up rs) (p.trans (rowSort_perm rs).symm)
  have ha' := hr a (p.mem_iff.mp ha)
  have hb' := hr b ((rowSort_perm rs).mem_iff.mp hb)
  exact code_inj (by omega) ha'.2 hb'.2 (Int.le_antisymm h1 h2)
def rowsI : List D → Option (List (List Int))
  | [] => some []
  | d :: ds => match rowI d, rowsI ds with
    | some r, some rs => some (r :: rs)
    | _, _ => none
theorem rowsI_eq : ∀ {ds : List D} {rs : List (List Int)}, rowsI ds = some rs → ds = rs.map dI
  | [], rs, e => by cases e; rfl
  | d :: ds, rs, e => by
    unfold rowsI at e
    cases h1 : rowI d with
    | none => rw [h1] at e; cases e
    | some r =>
      cases h2 : rowsI ds with
      | none => rw [h1, h2] at e; cases e
      | some q => rw [h1, h2] at e; cases e; rw [rowI_eq h1, rowsI_eq h2]; rfl
theorem rowsI_map : ∀ rs : List (List Int), rowsI (rs.map dI) = some rs
  | [] => rfl
  | r :: rs => by
    rw [List.map_cons]
    unfold rowsI
    rw [rowI_dI, rowsI_map rs]
open Classical in
noncomputable def cSortX (ds : List D) (h : AH) : ER := match ds with
  | [.ref a] => (match h[a]? with
    | some (.lst es) => (match rowsI es with
      | some rs => if RowsOK rs then .ok (.ref h.length) (h ++ [.lst ((rowSort rs).map dI)]) else .stuck
      | none => .stuck)
    | _ => .stuck)
  | _ => .stuck
theorem cSortX_ref {a : Nat} {h : AH} {rs : List (List Int)} (e : h[a]? = some (.lst (rs.map dI))) (ok : RowsOK rs) : cSortX [.ref a] h = .ok (.ref h.length) (h ++ [.lst ((rowSort rs).map dI)]) := by
  unfold cSortX
  simp only [e, rowsI_map]
  rw [if_pos ok]
section
variable {K : PySem.W.Frag} {ι : Nat → Addr} {n : Nat} {H : Hp}
theorem rd_tupI {r : List Int} {v : V} (q : RD K ι n H (dI r) v) : TupI K H v r := by
  obtain ⟨a, vs, e, s, rr⟩ := RD.tup.mp q
  rw [rr.ints] at s
  exact ⟨a, e, s⟩
theorem rds_tupI : ∀ {rs : List (List Int)} {vs : List V}, RDs K ι n H (rs.map dI) vs → ∀ x ∈ vs, ∃ r ∈ rs, TupI K H x r
  | [], vs, q, x, hx => by rw [RDs.nil.mp q] at hx; simp at hx
  | r :: rs, vs, q, x, hx => by
    rw [List.map_cons] at q
    obtain ⟨v, w, rfl, h1, h2⟩ := RDs.cons.mp q
    rcases List.mem_cons.mp hx with rfl | hx
    · exact ⟨r, by simp, rd_tupI h1⟩
    · obtain ⟨r', m, t⟩ := rds_tupI h2 x hx
      exact ⟨r', by simp [m], t⟩
theorem rds_perm {ys xs : List V} (p : ys.Perm xs) : ∀ {rs : List (List Int)}, RDs K ι n H (rs.map dI) xs → ∃ os : List (List Int), os.Perm rs ∧ RDs K ι n H (os.map dI) ys := by
  induction p with
  | nil => intro rs q; exact ⟨rs, List.Perm.refl _, q⟩
  | cons x p ih =>
    intro rs q
    cases rs with
    | nil => have := RDs.nil.mp q; cases this
    | cons r rs =>
      rw [List.map_cons] at q
      obtain ⟨v, w, e, h1, h2⟩ := RDs.cons.mp q
      cases e
      obtain ⟨os, po, qo⟩ := ih h2
      exact ⟨r :: os, po.cons r, RDs.cons' h1 qo⟩
  | swap x y l =>
    intro rs q
    cases rs with
    | nil => have := RDs.nil.mp q; cases this
    | cons r rs =>
      rw [List.map_cons] at q
      obtain ⟨v, w, e, h1, h2⟩ := RDs.cons.mp q
      cases e
      cases rs with
      | nil => have := RDs.nil.mp h2; cases this
      | cons r2 rs =>
        rw [List.map_cons] at h2
        obtain ⟨v, w, e, h3, h4⟩ := RDs.cons.mp h2
        cases e
        exact ⟨r2 :: r :: rs, List.Perm.swap _ _ _, RDs.cons' h3 (RDs.cons' h1 h4)⟩
  | trans p1 p2 ih1 ih2 =>
    intro rs q
    obtain ⟨o1, a1, b1⟩ := ih2 q
    obtain ⟨o2, a2, b2⟩ := ih1 b1
    exact ⟨o2, a2.trans a1, b2⟩
theorem rds_up : ∀ {os : List (List Int)} {ys : List V}, RDs K ι n H (os.map dI) ys → ys.Pairwise (fun x y => ∀ n m, TupI K H x n → TupI K H y m → TS.code 64 n ≤ TS.code 64 m) → os.Pairwise (fun a b => TS.code 64 a ≤ TS.code 64 b)
  | [], ys, _, _ => List.Pairwise.nil
  | r :: os, ys, q, u => by
    rw [List.map_cons] at q
    obtain ⟨v, w, rfl, h1, h2⟩ := RDs.cons.mp q
    obtain ⟨u1, u2⟩ := List.pairwise_cons.mp u
    refine List.pairwise_cons.mpr ⟨fun b hb => ?_, rds_up h2 u2⟩
    obtain ⟨i, hi⟩ := List.getElem?_of_mem hb
    obtain ⟨y, hy, ry⟩ := h2.get (i := i) (d := dI b) (by rw [List.getElem?_map, hi]; rfl)
    exact u1 y (List.mem_of_getElem? hy) r b (rd_tupI h1) (rd_tupI ry)
end
theorem cs_sortX {C : Ct} : CallS C (rSortX C.X.K) cSortX := by
  intro ι h H σ xs ds Q R r p
  unfold cSortX at p
  split at p
  · rename_i i
    obtain ⟨v, rfl, q1⟩ := r.one
    split at p
    · rename_i es e
      split at p
      · rename_i rs e2
        split at p
        · rename_i ok
          obtain ⟨vs, rfl, e1, rr⟩ := q1.list R e
          have hs : SqL C.X.K H (ι i) vs := SqL.of e1
          rw [rowsI_eq e2] at rr
          have ok' := ok
          obtain ⟨l64, d, hd, hr⟩ := ok
          refine ⟨d, 64, hd, _, vs, rfl, hs, by rw [← rr.length]; simpa using l64, fun x hx => ?_, fun ys p' pm up hp => ?_⟩
          · obtain ⟨r, m, t⟩ := rds_tupI rr x hx
            exact ⟨r, t, hr r m⟩
          · obtain ⟨os, po, qo⟩ := rds_perm pm rr
            have eo := rowSort_eq ok' po (rds_up qo up)
            rw [eo] at qo
            exact PostE.lst p R qo hp
        · exact p.elim
      · exact p.elim
    · exact p.elim
  · exact p.elim
end Rf

set_option maxHeartbeats 1000000
/-! {k: v} where k is a tuple of ints and texts -/
namespace Rf
open PySem PySem.Spec PyProof.Rows L2
def tDispT1 (tk tv : TE) : TE := fun σ H Q => ∀ p, H p = none → tk σ (upd H p (.dT [])) fun x H1 => tv σ H1 fun y H2 => H2 p = some (.dT []) ∧ ∃ (k : List Key) (b : Addr), x = .ref b ∧ H2 b = some (.tup (k.map kV)) ∧ Q (.ref p) (upd H2 p (.dT [(k, y)]))
section
variable {X : Cx} {k v : Expr} {tk tv : TE} {pos : Pos}
theorem pe_dispT1 (hu : X.A.units + 1 < cLine) (hk : PE X k tk) (hv : PE X v tv) : PE X (.Dict [some k] [v] pos) (tDispT1 tk tv) := by
  refine ⟨fun pins s σ H Q I q => ?_⟩
  have hn := I.hok.fresh (Nat.le_refl s.heap.objs.size)
  have I1 := I.laid (a := s.heap.objs.size) (o := .dT []) (h' := s.heap.push { cls := .type "dict", data := .dict #[] }) (t' := s.toks) (fun _ _ q => Heap.get?_push_of_some _ q) (Nat.le_refl _) (dt_empty s.heap I.big)
  have hall : ([some k] : List (Option Expr)).all (·.isSome) = true := rfl
  have PP : PPs X pos [some k] [v] [(tk, tv)] := pps_cons hk hv pps_nil
  have hsh := zip_pairTrees [some k] [v] X.env pos hall rfl
  have hn1 : (pairTrees [some k] [v] X.env pos).length = 1 := pairTrees_length [some k] [v] X.env pos hall rfl
  rw [arm_eval_Dict, hsh, dictDisplay_pairs (pairTrees [some k] [v] X.env pos) (by intro z; rw [z] at hn1; cases hn1) (by omega)]
  refine wpAny_bind (wpAny_standAt (wpAny_bind (wpAny_subDictH (knd := tupleKind (mixKind X.prog X.w)) (Q := fun d s' => wpAny (model X.prog X.w) X.A (pure (Value.ref d)) _ X.xe s') (show X.A.units < cLine by omega) (by omega) ?_)))
  refine thn (PP.run pins _ σ _ (fun ps H2 => match ps with
    | [(x, y)] => H2 s.heap.objs.size = some (.dT []) ∧ ∃ (k : List Key) (b : Addr), x = .ref b ∧ H2 b = some (.tup (k.map kV)) ∧ Q (.ref s.heap.objs.size) (upd H2 s.heap.objs.size (.dT [(k, y)]))
    | _ => False) I1 (q _ hn)) fun ws s2 ⟨ps, H2, I2, rel, z⟩ => ?_
  split at z
  · rename_i x y
    obtain ⟨e, kk, b, rfl, eb, q2⟩ := z
    cases rel with
    | @cons p pw ps' ws' h1 h2 =>
      cases h2
      obtain ⟨u1, u2⟩ := pw
      obtain ⟨r1, r2⟩ := h1
      have e1 : u1 = Value.ref b := r1
      subst e1
      obtain ⟨zz, hd, xs, r0, dd⟩ := dt_of I2.hok e
      have ex : xs = [] := by cases r0; rfl
      subst ex
      refine ⟨[(kk, b, u2)], ⟨rfl, rfl, key_of I2.hok eb, trivial⟩, dd, fun h' tk' dd' hs => ?_⟩
      obtain ⟨q', es, ep, hq, h2', h3, h4, _, h5⟩ := dd'
      refine wpAny_pure ⟨.ref s.heap.objs.size, _, ?_, rfl, q2⟩
      refine d_write I2 (by rw [e]; exact True.intro) hs ⟨q', hq⟩ ⟨by rw [sizeLine_eq]; simp, hd, [(kk, b, u2)], ?_, q', es, ep, hq, h2', h3, h4, h5⟩
      refine .cons ⟨rfl, ?_, r2⟩ .nil
      rw [upd_ne (ne_of eb e (fun z => nomatch z))]
      exact eb
  · exact z.elim
end
/-- {k: v}, k a tuple -/
def eDisp1 (mk mv : EM) : EM := fun env h => (mk env (h ++ [.dT []])).then fun dk h1 => (mv env h1).then fun dv h2 => match h2[h.length]?, tupK dk with
  | some (.dT []), some k => .ok (.ref h.length) (h2.set h.length (.dT [(k, dv)]))
  | _, _ => .stuck
theorem me_disp1 {C : Ct} {k v : Expr} {mk mv : EM} {pos : Pos} (hu : C.X.A.units + 1 < cLine) (hk : ME C k mk) (hv : ME C v mv) : ME C (.Dict [some k] [v] pos) (eDisp1 mk mv) := by
  obtain ⟨tk, pk, sk⟩ := hk
  obtain ⟨tv, pv, sv⟩ := hv
  refine ⟨_, pe_dispT1 hu pk pv, ⟨fun env h σ H ι Q R V p => fun a ha => ?_⟩⟩
  unfold eDisp1 at p
  have el : (h ++ [AO.dT []]).length = h.length + 1 := by simp
  have x : Ext ι h.length H (ιset ι h.length a) (h.length + 1) (upd H a (.dT [])) := Ext.new ha
  have R1 : Rel C.X.K (ιset ι h.length a) (h ++ [.dT []]) (upd H a (.dT [])) := R.new ha fun x => ⟨[], upd_same, rfl, RDs.nil'⟩
  have V1 : RV C (ιset ι h.length a) (h ++ [AO.dT []]).length (upd H a (.dT [])) env σ := by rw [el]; exact V.ext R x
  have p1 := p.shift x
  rw [← el] at p1
  refine sk.then R1 V1 p1 fun dk h1 ι1 H1 v1 x1 R2 V2 r1 p2 => ?_
  refine sv.then R2 V2 p2 fun dv h2 ι2 H2 v2 x2 R3 V3 r2 p3 => ?_
  have xx := x1.trans x2
  have hl : h.length < (h ++ [AO.dT []]).length := by rw [el]; omega
  have eι : ι2 h.length = a := by rw [xx.ag _ hl, ιset_same]
  split at p3
  · rename_i kk e1 e2
    obtain ⟨ws, hw, hkk, rr⟩ := R3.ob _ _ e1
    have ew : ws = [] := by
      have := congrArg List.length hkk
      rw [List.length_map, List.length_map] at this
      exact List.eq_nil_of_length_eq_zero this.symm
    subst ew
    rw [eι] at hw
    obtain ⟨b, rfl, hb⟩ := tupK_rel r1 e2
    have hb2 : H2 b = some (.tup (kk.map kV)) := R2.fix x2 hb fun z => z
    have hl2 : h.length < h2.length := (List.getElem?_eq_some_iff.mp e1).1
    refine ⟨hw, kk, b, rfl, hb2, ?_⟩
    have x3 : Ext ι2 h2.length H2 ι2 h2.length (upd H2 (ι2 h.length) (.dT [(kk, v2)])) := Ext.put R3 hl2
    rw [eι] at x3
    have R4 : Rel C.X.K ι2 (h2.set h.length (.dT [(kk, dv)])) (upd H2 (ι2 h.length) (.dT [(kk, v2)])) := R3.put hl2 fun xx => ⟨[(kk, v2)], upd_same, rfl, RDs.cons' (r2.mono (xx.grow R3)) RDs.nil'⟩
    rw [eι] at R4
    refine p3 ι2 _ (.ref a) (by rw [List.length_set]; exact x3) R4 ?_
    rw [List.length_set]
    exact RD.ref.mpr ⟨hl2, by rw [eι]⟩
  · exact p3.elim
end Rf

set_option maxHeartbeats 2000000
/-! list(reversed(range(n))) -/
namespace Rf
open PySem PySem.Spec PyProof.Rows
section
variable {prog : Program} {w : World} {A : Around} {E : Value → Shared → Prop} {s : Shared}
theorem rit_hint {I : Addr} {a c : Int} {n : Nat} {Q : Value → Shared → Prop} (hI : IsRangeIter s.heap I a n c) (h : Q (.int n s.toks) { s with toks := s.toks + 1 }) : wpAny (model prog w) A (call (.builtin "range_iterator.__length_hint__") [.ref I]) Q E s := by
  have hT : s.TypeIs (.ref I) "range_iterator" := ⟨_, hI, rfl⟩
  refine wpAny_call_entry F.slot_range_iterator_length_hint hT F.entry_range_iterator_length_hint ?_ (F.args_range_iterator_length_hint_1 _)
  obtain ⟨hp, g, d, tk, os⟩ := s
  wp_walk using AutoSeq1.wpAny_loadPart' hI
  exact ⟨_, rfl, h⟩
theorem extend_rit {R : Result → Shared → Prop} {I : Addr} {a c : Int} {n : Nat} (hh : A.handled = none) (hI : IsRangeIter s.heap I a n c) (hlen : n ≤ 2 ^ 24) (S : Addr) (res : Value) (c₀ : Nat) (hS : s.heap.get? S = some { cls := .type "list", data := .seq #[] c₀ })
    (hR : ∀ h' tk acc' c', (∀ b o, b ≠ S → b ≠ I → s.heap.get? b = some o → h'.get? b = some o) → h'.get? S = some { cls := .type "list", dict := none, data := .seq acc' c', slots := #[] } →
      ItemsOf (fun i v => ∃ t, v = .int (a + i * c) t) acc' n → R (.ok (.ret res)) { s with heap := h', toks := tk }) :
    wpAny (model prog w) A.in1 (Builtin.List.listExtendWith (.ref S) (.ref I) res)
      (fun fin s' => match fin with | .done f => R (.ok f) s' | .again c' => c'.quiet = true ∧ codeAny (model prog w) A c' R s') (fun e s' => R (.error e) s') s := by
  have hSI : S ≠ I := fun e => by rw [e, hI] at hS; simp at hS
  have hSf : S ∉ [I] := fun hm => hSI (List.mem_singleton.mp hm)
  have W := (Walks.range (prog := prog) (w := w) (A := A.in1) hh I a c n).toS
  have hst : IsRangeIter s.heap I (a + ((0 : Nat) : Int) * c) ((n : Int) - ((0 : Nat) : Int)) c := by
    have e1 : a + ((0 : Nat) : Int) * c = a := by simp
    have e2 : (n : Int) - ((0 : Nat) : Int) = n := by simp
    rw [e1, e2]; exact hI
  have hT : s.TypeIs (.ref I) "range_iterator" := ⟨_, hI, rfl⟩
  have h1 : Builtin.List.listSameRef (.ref S) (.ref I) = false := by simp [Builtin.List.listSameRef, hSI]
  unfold Builtin.List.listExtendWith
  refine wpAny_bind (wpAny_typeOf hT ?_)
  rw [if_neg (by rw [h1]; decide)]
  refine wpAny_bind (wpAny_pyIter_rangeiter hI ?_)
  refine wpAny_bind (wpAny_holding ?_)
  unfold Builtin.List.listLengthHint
  refine wpAny_bind (wpAny_specialOf hT F.nolen_ra ?_)
  show wpAny _ A.in1 (specialOf (Value.ref I) (Str.ofString "__length_hint__") >>= _) _ _ _
  refine wpAny_bind (wpAny_specialOf hT F.hint_ra ?_)
  generalize hid : ("range_iterator.__length_hint__" : String) = id0
  wp_delta
  rw [show splitId id0 = some ("range_iterator", "__length_hint__") from by subst hid; decide +kernel]
  subst hid
  refine wpAny_bind (wpAny_isInstance (b := true) hT (by rw [isSubtype_type]; kernel_rfl) ?_)
  show wpAny _ A.in1 (call (.builtin "range_iterator.__length_hint__") [.ref I] >>= _) _ _ _
  refine wpAny_bind (rit_hint hI ?_)
  refine wpAny_bind (m := asInt? _) (wpAny_pure ?_)
  dsimp only
  have htl : Builtin.List.listTooLong ((n : Int).toNat) = false := by simp [Builtin.List.listTooLong, sizeLine]; omega
  rw [if_neg (by rw [htl]; decide)]
  refine wpAny_pure ?_
  rw [if_neg (by decide)]
  refine wpAny_pure ⟨plainId_quiet F.plain_extend_loop _, codeAny_extend_loopS W (by rw [sizeLine_eq]; omega) S hSf res n 0 _ #[] c₀ rfl (Nat.zero_le _) hst hS (ItemsOf.nil _) fun s' acc' c' hm hS' hacc => ?_⟩
  rw [Moved.eq_with hm]
  refine hR s'.heap s'.toks acc' c' (fun b o hb hb2 e => hm.heap b o (fun hmem => ?_) e) hS' hacc
  rcases List.mem_cons.mp hmem with e' | hmem
  · exact hb e'
  · exact hb2 (List.mem_singleton.mp hmem)
theorem list_init_rit {R : Result → Shared → Prop} {I : Addr} {a c : Int} {n : Nat} (hh : A.handled = none) (hI : IsRangeIter s.heap I a n c) (hlen : n ≤ 2 ^ 24) (S : Addr) (hS : s.heap.get? S = some { cls := .type "list", data := .seq #[] })
    (hR : ∀ h' tk acc' c', (∀ b o, b ≠ S → b ≠ I → s.heap.get? b = some o → h'.get? b = some o) → h'.get? S = some { cls := .type "list", dict := none, data := .seq acc' c', slots := #[] } →
      ItemsOf (fun i v => ∃ t, v = .int (a + i * c) t) acc' n → R (.ok (.ret .none)) { s with heap := h', toks := tk }) :
    wpAny (model prog w) A.in1 (Builtin.«list.__init__» ⟨[.ref S, .ref I], []⟩)
      (fun fin s' => match fin with | .done f => R (.ok f) s' | .again c' => c'.quiet = true ∧ codeAny (model prog w) A c' R s') (fun e s' => R (.error e) s') s := by
  have hSI : S ≠ I := fun e => by rw [e, hI] at hS; simp at hS
  show wpAny _ _ (do let old ← Builtin.List.listItems (.ref S); Builtin.List.listUpdate (.ref S) (fun _ => #[]); letGo old.toList.reverse; Builtin.List.listExtendWith (.ref S) (.ref I) .none) _ _ s
  refine wpAny_bind ?_
  unfold Builtin.List.listItems
  refine wpAny_bind (wpAny_seqItems hS rfl (wpAny_pure ?_))
  show wpAny _ _ (updateSeq S (fun _ => #[]) >>= fun _ => letGo (#[] : Array Value).toList.reverse >>= fun _ => Builtin.List.listExtendWith (.ref S) (.ref I) .none) _ _ s
  refine wpAny_bind (wpAny_updateSeq hS rfl ?_)
  have hS₂ := Heap.get?_update_self (Obj.mapSeq (fun _ => (#[] : Array Value))) hS rfl
  have oth : ∀ b o, b ≠ S → s.heap.get? b = some o → (s.heap.update S (Obj.mapSeq (fun _ => (#[] : Array Value)))).get? b = some o :=
    fun b o hb e => (Heap.get?_update_other _ _ (Ne.symm hb)).trans e
  refine wpAny_bind (wpAny_letGo ?_)
  refine extend_rit hh (oth I _ (Ne.symm hSI) hI) hlen S .none _ hS₂ fun h' tk acc' c' hk hS' hacc => ?_
  exact hR h' tk acc' c' (fun b o hb hb2 e => hk b o hb hb2 (oth b o hb e)) hS' hacc
theorem call_list_rit {Q : Value → Shared → Prop} {I : Addr} {a c : Int} {n : Nat} (hh : A.handled = none) (hI : IsRangeIter s.heap I a n c) (hlen : n ≤ 2 ^ 24)
    (hQ : ∀ h' tk acc' c', (∀ b o, b ≠ I → s.heap.get? b = some o → h'.get? b = some o) →
      h'.get? s.heap.objs.size = some { cls := .type "list", dict := none, data := .seq acc' c', slots := #[] } → ItemsOf (fun i v => ∃ t, v = .int (a + i * c) t) acc' n → Q (.ref s.heap.objs.size) { s with heap := h', toks := tk }) :
    wpAny (model prog w) A (call (.type "list") [.ref I]) Q E s := by
  refine callType_codes (Q₁ := fun obj s₁ => obj = .ref s.heap.objs.size ∧ s₁ = { s with heap := s.heap.push { cls := .type "list", data := .seq #[] } }) F.called_list (F.typeCall_list_1 _) F.entry_list_init
    (code_list_new _ ⟨rfl, rfl⟩) fun obj s₁ h₁ => ?_
  obtain ⟨rfl, rfl⟩ := h₁
  have hS : (s.heap.push { cls := .type "list", data := .seq #[] }).get? s.heap.objs.size = some { cls := .type "list", data := .seq #[] } := Heap.get?_push_size _ rfl
  have hI2 : IsRangeIter (s.heap.push { cls := .type "list", data := .seq #[] }) I a n c := Heap.get?_push_of_some _ hI
  refine ⟨⟨_, hS, rfl⟩, F.args_list_init_2 _ _, list_init_rit (A := A.in1) hh hI2 hlen _ hS fun h' tk acc' c' hk hS' hacc => ?_⟩
  exact ⟨rfl, hQ h' tk acc' c' (fun b o hb e => hk b o (Nat.ne_of_lt (Heap.lt_size e)) hb (Heap.get?_push_of_some _ e)) hS' hacc⟩
end
open L2
/-- the ints b - 1 .. a -/
def revV (a b : Int) : List V := (List.range (b - a).toNat).map fun i => V.int (a + (((b - a).toNat : Nat) : Int) - 1 + (i : Nat) * (-1))
def tLstRev (te : L2.St → Hp → (Int → Int → Hp → Prop) → Prop) : TE := fun σ H Q => te σ H fun a b H1 => RgOk a b ∧ ∀ q, H1 q = none → Q (.ref q) (upd H1 q (.lst (revV a b)))
theorem vals_rev {a b : Int} {acc : Array Value} (h : ItemsOf (fun i v => ∃ t, v = .int (a + (((b - a).toNat : Nat) : Int) - 1 + i * (-1)) t) acc (b - a).toNat) : Vals (revV a b) acc.toList := by
  have e : acc.toList.length = (b - a).toNat := by rw [Array.length_toList]; exact h.1
  unfold revV
  have key : ∀ m : Nat, m = (b - a).toNat → Vals ((List.range acc.toList.length).map fun i => V.int (a + (m : Int) - 1 + (i : Nat) * (-1))) acc.toList := fun m hm => vals_of_get acc.toList _ fun j u hj => by
    obtain ⟨t, rfl⟩ := h.2 j u (by rw [← hj, Array.getElem?_toList])
    exact ⟨t, by rw [hm]⟩
  have := key _ rfl
  rw [e] at this
  exact this
theorem pe_listRev {X : Cx} {e : Expr} {te : L2.St → Hp → (Int → Int → Hp → Prop) → Prop} {p p2 pos pos2 : Pos} (hc : X.calm = true) (hg : Gl X "list") (hm : X.mg "list" = none) (hg2 : Gl X "reversed") (hm2 : X.mg "reversed" = none) (he : PRg X e te)
    (hs : starEach [e] X.env = (false, eval e X.env) :: starEach [] X.env := by rfl)
    (na : starEach [.Call (.Name "reversed" p2) [e] [] pos2] X.env = (false, eval (.Call (.Name "reversed" p2) [e] [] pos2) X.env) :: starEach [] X.env := by rfl) :
    PE X (.Call (.Name "list" p) [.Call (.Name "reversed" p2) [e] [] pos2] [] pos) (tLstRev te) := by
  refine ⟨fun pins s σ H Q I h => ?_⟩
  refine Call_ (ld_blt I hg hm boot_list (PyProof.Rows.callWith_type1 (args_cons ?_ na) na))
  refine Call_ (ld_blt (s := s) I hg2 hm2 PyProof.Rows.boot_reversed (PyProof.Rows.callWith_type1 (args_cons (thn (he pins s σ H _ I h) fun x s1 ⟨r, a, b, t, u, v, H1, ex, hr, I1, ok, q⟩ => args_nil ?_) hs) hs rfl))
  subst ex
  obtain ⟨b1, b2, b3, b4, b5⟩ := ok
  refine call_reversed_range hr (smallRev_one b1 b2 b3 b4) (args_nil ?_)
  have hn : Builtin.Range.rangeSize a b 1 = (((b - a).toNat : Nat) : Int) := rangeSize_nat a b
  have hI : IsRangeIter (s1.heap.push (rngRevObj a b 1)) s1.heap.objs.size (a + (((b - a).toNat : Nat) : Int) - 1) (b - a).toNat (-1) := by
    have e1 : a + (((b - a).toNat : Nat) : Int) - 1 = a + (Builtin.Range.rangeSize a b 1 - 1) * 1 := by rw [hn]; omega
    rw [e1, ← hn]
    exact Heap.get?_push_size _ rfl
  refine call_list_rit (s := { s1 with heap := s1.heap.push (rngRevObj a b 1) }) (I1.ok.hd hc) hI b5 fun h' tk acc c' hk e' hi => ?_
  have hk1 : ∀ b o, s1.heap.get? b = some o → h'.get? b = some o := fun b o eb => hk b o (Nat.ne_of_lt (Heap.lt_size eb)) (Heap.get?_push_of_some _ eb)
  have sz : (s1.heap.push (rngRevObj a b 1)).objs.size = s1.heap.objs.size + 1 := Heap.size_push ..
  have e2 : h'.get? (s1.heap.push (rngRevObj a b 1)).objs.size = some { cls := .type "list", dict := none, data := .seq acc c', slots := #[] } := e'
  refine ⟨.ref (s1.heap.push (rngRevObj a b 1)).objs.size, upd H1 (s1.heap.push (rngRevObj a b 1)).objs.size (.lst (revV a b)), I1.laid (t' := tk) hk1 (by rw [sz]; exact Nat.le_succ _) (show ObjOk X.prog X.w _ _ _ (.lst (revV a b)) from ⟨?_, acc.toList, c', vals_rev hi, ?_⟩), rfl, q _ (I1.hok.fresh (by rw [sz]; exact Nat.le_succ _))⟩
  · unfold revV; rw [List.length_map, List.length_range, sizeLine_eq]; omega
  · rw [Array.toArray_toList]; exact e2
noncomputable def eLRev (m : EM) : EM := fun env h => (m env h).then fun d h1 => match d with
  | .int j => if RgOk 0 j then .ok (.ref h1.length) (h1 ++ [.lst (rg 0 j.toNat).reverse]) else .stuck
  | _ => .stuck
theorem rds_rev {K : PySem.W.Frag} {ι : Nat → Addr} {n : Nat} {H : Hp} {j : Int} : RDs K ι n H (rg 0 j.toNat).reverse (revV 0 j) := by
  have e : revV 0 j = (rgV 0 j).reverse := by
    unfold revV rgV
    rw [Int.sub_zero]
    generalize j.toNat = m
    apply List.ext_getElem
    · simp
    · intro i h1 h2
      have hi : i < m := by simpa using h1
      rw [List.getElem_map, List.getElem_reverse, List.getElem_map, List.getElem_range, List.getElem_range]
      simp only [List.length_map, List.length_range]
      congr 1
      omega
  rw [e]
  exact rds_rg.reverse
theorem me_listRev {C : Ct} {a : Expr} {ma : EM} {p pos p2 pos2 p3 pos3 : Pos} (hc : C.X.calm = true) (hml : C.X.mg "list" = none) (hmr : C.X.mg "reversed" = none) (hm : C.X.mg "range" = none) (ha : ME C a ma) (hgl : Gl C.X "list" := by rfl) (hgr : Gl C.X "reversed" := by rfl) (hg : Gl C.X "range" := by rfl)
    (na : starEach [a] C.X.env = (false, eval a C.X.env) :: starEach [] C.X.env := by rfl)
    (hs : starEach [.Call (.Name "range" p) [a] [] pos] C.X.env = (false, eval (.Call (.Name "range" p) [a] [] pos) C.X.env) :: starEach [] C.X.env := by rfl)
    (hs2 : starEach [.Call (.Name "reversed" p3) [.Call (.Name "range" p) [a] [] pos] [] pos3] C.X.env = (false, eval (.Call (.Name "reversed" p3) [.Call (.Name "range" p) [a] [] pos] [] pos3) C.X.env) :: starEach [] C.X.env := by rfl) :
    ME C (.Call (.Name "list" p2) [.Call (.Name "reversed" p3) [.Call (.Name "range" p) [a] [] pos] [] pos3] [] pos2) (eLRev ma) := by
  obtain ⟨t, pa, sa⟩ := ha
  refine ⟨_, pe_listRev hc hgl hml hgr hmr (prg_1 hg hm pa na) hs hs2, ⟨fun env h σ H ι Q R V p => ?_⟩⟩
  refine sa.then R V p fun d h1 ι1 H1 v x1 R1 V1 r1 p1 => ?_
  cases d with
  | int j =>
    dsimp only at p1
    by_cases hj : RgOk 0 j
    · rw [if_pos hj] at p1
      exact ⟨j, RD.int.mp r1, hj, fun q hq => p1.lst R1 rds_rev hq⟩
    · rw [if_neg hj] at p1; exact p1.elim
  | _ => exact (show False from p1).elim
end Rf

set_option maxHeartbeats 1000000
/-! walks over a known tuple -/
namespace Rf
open PySem PySem.Spec PyProof.Rows L2
def iValK (m : EM) : IM := fun e h => match m e h with
  | .ok (.kt ds) h1 => .ok (stat ds) h1
  | .ok _ _ => .stuck
  | .exc c fs h1 => .exc c fs h1
  | .stuck => .stuck
def iEnumK (m : EM) : IM := fun e h => match m e h with
  | .ok (.kt ds) h1 => .ok (stat (numD ds)) h1
  | .ok _ _ => .stuck
  | .exc c fs h1 => .exc c fs h1
  | .stuck => .stuck
section
variable {C : Ct} {tg a : Expr} {m : EM} {p pos tpos : Pos} {elts : List Expr} {kk : Nat}
theorem mi_valK (ha : ME C a m) : MI C tg a (iValK m) := by
  obtain ⟨t, pa, sa⟩ := ha
  refine ⟨_, pi_tup pa, ⟨fun env h σ H ι Q R V p => ?_⟩⟩
  refine sa.run env h σ H ι _ R V ?_
  unfold iValK at p
  cases hm : m env h with
  | exc c fs h1 => rw [hm] at p; exact p
  | stuck => rw [hm] at p; exact p
  | ok d h1 =>
    rw [hm] at p
    cases d with
    | kt ds =>
      refine fun ι' H' v x R' r => ?_
      obtain ⟨a, vs, rfl, s, rr⟩ := RD.kt.mp r
      exact ⟨a, rfl, ⟨vs, s.sq⟩, p.here x R' (itr_tup R' s.sq rr)⟩
    | _ => exact (show False from p).elim
theorem mi_enumK (hm : C.X.mg "enumerate" = none) (ha : ME C a m) (hg : Gl C.X "enumerate" := by rfl) (hs : starEach [a] C.X.env = [(false, eval a C.X.env)] := by rfl) (na : starEach [a] C.X.env = (false, eval a C.X.env) :: starEach [] C.X.env := by rfl) :
    MI C (.Tuple elts kk tpos) (.Call (.Name "enumerate" p) [a] [] pos) (iEnumK m) := by
  obtain ⟨t, pa, sa⟩ := ha
  refine ⟨_, pi_enumT hg hm (pa_cons pa pa_nil na) hs, ⟨fun env h σ H ι Q R V p => ?_⟩⟩
  unfold iEnumK at p
  refine sa.run env h σ H ι _ R V ?_
  cases hm : m env h with
  | exc c fs h1 => rw [hm] at p; exact p
  | stuck => rw [hm] at p; exact p
  | ok d h1 =>
    rw [hm] at p
    cases d with
    | kt ds =>
      refine fun ι' H' v x R' r => ?_
      obtain ⟨a, vs, rfl, s, rr⟩ := RD.kt.mp r
      exact ⟨a, vs, rfl, s.sq, p.here x R' (itr_enumT R' s.sq rr)⟩
    | _ => exact (show False from p).elim
end
end Rf

set_option maxHeartbeats 1000000
/-! str of an int; divmod -/
namespace Rf
open PySem PySem.Spec PyProof.Rows L2
open Classical in
/-- str(i) -/
noncomputable def cStr (ds : List D) (h : AH) : ER := match ds with
  | [.int i] => if i.natAbs.log2 < 1920 then .ok (.str (Str.ofString (toString i))) h else .stuck
  | _ => .stuck
theorem cs_str {C : Ct} : CallS C (fun xs H Q => ∃ i, xs = [.int i] ∧ i.natAbs.log2 < 1920 ∧ Q (.str (toString i)) H) cStr := by
  intro ι h H σ xs ds Q R r p
  unfold cStr at p
  split at p
  · rename_i i
    obtain ⟨v, rfl, q1⟩ := r.one
    by_cases c : i.natAbs.log2 < 1920
    · rw [if_pos c] at p
      exact ⟨i, by rw [RD.int.mp q1], c, p.here R (RD.str.mpr rfl)⟩
    · rw [if_neg c] at p; exact p.elim
  · exact p.elim
open Classical in
noncomputable def cDivmod (ds : List D) (h : AH) : ER := match ds with
  | [.int i, .int j] => if CDiv i j then .ok (.tup [.int (i / j), .int (i % j)]) h else .stuck
  | _ => .stuck
theorem cs_divmod {C : Ct} : CallS C (fun xs H Q => ∃ i j, xs = [.int i, .int j] ∧ CDiv i j ∧ ∀ p, H p = none → Q (.ref p) (upd H p (.tup [.int (i / j), .int (i % j)]))) cDivmod := by
  intro ι h H σ xs ds Q R r p
  unfold cDivmod at p
  split at p
  · rename_i i j
    obtain ⟨v, vs, rfl, q1, q2⟩ := RDs.cons.mp r
    obtain ⟨w, rfl, q3⟩ := q2.one
    by_cases c : CDiv i j
    · rw [if_pos c] at p
      refine ⟨i, j, by rw [RD.int.mp q1, RD.int.mp q3], c, fun l hl => ?_⟩
      have rr : RDs C.X.K ι h.length H [D.int (i / j), .int (i % j)] [V.int (i / j), .int (i % j)] := RDs.cons' (RD.int.mpr rfl) (RDs.cons' (RD.int.mpr rfl) RDs.nil')
      have x : Ext ι h.length H ι h.length (upd H l (.tup [.int (i / j), .int (i % j)])) := Ext.tup hl
      exact p ι _ (.ref l) x (R.tup hl x) (RD.tup.mpr ⟨l, _, rfl, upd_same, rr.mono (x.grow R)⟩)
    · rw [if_neg c] at p; exact p.elim
  · exact p.elim
end Rf

set_option maxHeartbeats 1000000
/-! sum(t) of a tuple of ints, besides sum(xs) of a list -/
namespace Rf
open PySem PySem.Spec PyProof.Rows L2
def rSumT (K : PySem.W.Frag) : List V → Hp → VK → Prop := fun vs H Q => ∃ (a : Addr) (ns : List Int), vs = [V.ref a] ∧ SqT K H a (ns.map V.int) ∧ Q (.int ns.sum) H
theorem cr_sumT {X : Cx} (hc : X.calm = true) : CallR X (.builtin "sum") (rSumT X.K) := by
  intro pins s σ H vs us Q I r h
  obtain ⟨a, ns, rfl, hs, q⟩ := h
  obtain ⟨its, rv, hl, _⟩ := I.tuple hs
  rw [Vals.ref1 r]
  have hi : IntsAre its ns := rv.ints
  obtain ⟨xs, e⟩ := hi.allInts.items
  have hn : numsOf (intItems xs).toList = ns := by rw [← e]; exact hi.numsOf
  rw [nums_intItems] at hn
  rw [e] at hl
  refine PySem.W.ktm_sumG (I.ok.hd hc) hl fun h' tk t' hk => ?_
  have r2 : EP X pins σ Q (.int ns.sum t') { s with heap := h', toks := tk } := ⟨.int _, H, I.kept hk, ⟨_, rfl⟩, q⟩
  rw [preSum_eq, List.take_of_length_le (by simp), hn]
  exact r2
def rSumA (K : PySem.W.Frag) : List V → Hp → VK → Prop := fun vs H Q => rSum K vs H Q ∨ rSumT K vs H Q
theorem cr_sumA {X : Cx} (hc : X.calm = true) : CallR X (.builtin "sum") (rSumA X.K) := by
  intro pins s σ H vs us Q I r h
  rcases h with h | h
  · exact cr_sum hc pins s σ H vs us Q I r h
  · exact cr_sumT hc pins s σ H vs us Q I r h
def cSumA (ds : List D) (h : AH) : ER := match ds with
  | [.tup es] => (match intsOf es with
    | some ns => .ok (.int ns.sum) h
    | none => .stuck)
  | ds => cSum ds h
theorem cs_sumA {C : Ct} : CallS C (rSumA C.X.K) cSumA := by
  intro ι h H σ xs ds Q R r p
  unfold cSumA at p
  split at p
  · rename_i es
    obtain ⟨v, rfl, q1⟩ := r.one
    split at p
    · rename_i ns e2
      obtain ⟨a, vs, rfl, s, rr⟩ := RD.tup.mp q1
      rw [intsOf_eq e2] at rr
      rw [rr.ints] at s
      exact .inr ⟨a, ns, rfl, s, p.here R (RD.int.mpr rfl)⟩
    · exact p.elim
  · exact .inl (cs_sum ι h H σ xs _ Q R r p)
end Rf

set_option maxHeartbeats 1000000
/-! [.. for x in range(..)] where an exception is handled -/
namespace Rf
open PySem PySem.Spec PyProof.Rows L2
abbrev HotC := L2H.HotC
theorem hot_sui {X : Cx} {a : Addr} {oe : Obj} {pn : List (Addr × Obj)} {cls : Value} {d : Option Addr} (hz : L2N.Zn cls d oe) (hf : ∃ vs, oe.data = .fields vs) : HotC (X.suite a ((a, oe) :: pn)) := by
  obtain ⟨vs, e⟩ := hf
  exact ⟨(a, oe), ⟨rfl, vs, e, hz.2.2 vs e⟩, List.mem_cons_self⟩
/-- the context of a block, in which p stands still -/
abbrev blkP (X : Cx) (p : Addr × Obj) (s : Shared) (H : Hp) (scope : Scope) (ce : Env) (fp : List Addr) : Cx := (X.blk s H scope ce fp).tr [p] (fun _ _ => False)
section
variable {X : Cx}
theorem lc_coreH {pins : List (Addr × Obj)} {s : Shared} {σ : L2.St} {H : Hp} {Q : VK} {elt tg iter : Expr} {ifs : List Expr} {scope : Scope} {own : List (Str × Nat)} {pos pos' : Pos} {wi : TI} {g : TG} {tt : TT} {te : TE} {Qf : Value → Shared → Prop} {use : Option (Value → Sem Unit)} {p : Addr × Obj}
    (h1 : L2H.Hot1 X.A p) (hp : p ∈ X.pn) (hN : X.N.Nodup) (I : Inv X pins σ H s) (hi : L2H.PIH X tg iter wi) (ok : BlkOk X.N X.env.scope scope own)
    (hg : ∀ (s : Shared) (H : Hp) (C : Addr) (cl : List (Str × Addr)) (fp : List Addr), PG (blkP X p s H scope (compEnvC scope cl C X.env) fp) tg g) (ht : ∀ (s : Shared) (H : Hp) (C : Addr) (cl : List (Str × Addr)) (fp : List Addr), PTs (blkP X p s H scope (compEnvC scope cl C X.env) fp) ifs tt)
    (he : ∀ (s : Shared) (H : Hp) (C : Addr) (cl : List (Str × Addr)) (fp : List Addr), PE (blkP X p s H scope (compEnvC scope cl C X.env) fp) elt te) (hs : ∀ x, foldedSetIterable iter X.env x = pure x)
    (h : tLc wi g tt te (own.map (·.2)) σ H Q)
    (hRR : ∀ D C s' m H', Inv X pins σ H' s' → Q (.ref D) H' → s'.heap.Ns C m → FpOk X pins H' C → compPost (model X.prog X.w) X.A X.xe use Qf (.ref D) C (.ok .next) s') :
    wpAny (model X.prog X.w) X.A (comprehension (.ListComp elt [⟨tg, iter, ifs, 0⟩] scope pos) scope X.env pos' (newList []) false (eval iter X.env) use) Qf X.xe s := by
  have hfree : ∀ y ∈ scope.names, y.2 = .free → ∃ c, X.env.cells.lookup y.1 = some c := fun y hy e => by
    rcases ok.free y hy e with k | k
    · exact I.ok.has _ (.inl k)
    · exact I.ok.has _ (.inr k)
  refine wpAny_comprehension_free (use := use) rfl hs (closure_ok hfree) ok.kind (fun y hy e => by rw [ok.uniq y hy, e]) (thn (hi.run pins s σ H _ I h) fun xv s1 hx => thn hx fun itv s2 h2 => ?_)
  obtain ⟨it, fp, tn, J, H2, rfl, I2, T, st2, f2, q⟩ := h2
  refine wpAny_newObj_type (newEnv_comp ?_) (by show 0 ≤ sizeLine; decide)
  obtain ⟨D, hD⟩ : ∃ D, s2.heap.objs.size = D := ⟨_, rfl⟩
  rw [hD]
  have hDn : H2 D = none := I2.hok.fresh (Nat.le_of_eq hD)
  obtain ⟨W, ⟨m0, w0⟩, turn⟩ := q D hDn
  generalize hs3 : ({ s2 with heap := s2.heap.push { cls := .type "list", data := .seq ([] : List Value).toArray } } : Shared) = s3
  have h3 : s3.heap = s2.heap.push { cls := .type "list", data := .seq ([] : List Value).toArray } := by rw [← hs3]
  have I3 : Inv X pins σ (upd H2 D (.lst [])) s3 := by
    rw [← hs3]
    refine I2.laid (t' := s2.toks) (fun b o e => Heap.get?_push_of_some _ e) (Nat.le_of_eq hD) ⟨Nat.zero_le _, [], 0, .nil, ?_⟩
    rw [← hD]
    exact Heap.get?_push_size _ rfl
  have lv : ∀ b ∈ fp, b < s2.heap.objs.size := fun b hb => by
    obtain ⟨o, e, _⟩ := T.obj _ _ st2 b hb
    exact Heap.lt_size e
  have f3 : ∀ b ∈ fp, FpOk X pins (upd H2 D (.lst [])) b ∧ b < s3.heap.objs.size := fun b hb => by
    have lt := lv b hb
    exact ⟨⟨by rw [upd_ne (by rw [← hD]; exact Nat.ne_of_lt lt)]; exact (f2 b hb).1, (f2 b hb).2⟩, by rw [h3, Heap.size_push]; exact Nat.lt_succ_of_lt lt⟩
  have st3 : tn 0 s3.heap := T.keep _ _ _ st2 fun b _ o e => by rw [h3]; exact Heap.get?_push_of_some _ e
  have I4' := block_start I3 ok hN f3
  have P3 := I3.pin p (List.mem_append_left _ hp)
  have pg := hg s3 (upd H2 D (.lst [])) s3.heap.objs.size (cellsFrom (s3.heap.objs.size + 1) scope.names (cloFrom X.env.cells scope.names [])) fp
  have pt := ht s3 (upd H2 D (.lst [])) s3.heap.objs.size (cellsFrom (s3.heap.objs.size + 1) scope.names (cloFrom X.env.cells scope.names [])) fp
  have pe := he s3 (upd H2 D (.lst [])) s3.heap.objs.size (cellsFrom (s3.heap.objs.size + 1) scope.names (cloFrom X.env.cells scope.names [])) fp
  have I4 : Inv (blkP X p s3 (upd H2 D (.lst [])) scope (compEnvC scope (cellsFrom (s3.heap.objs.size + 1) scope.names (cloFrom X.env.cells scope.names [])) s3.heap.objs.size X.env) fp) [] (wipe σ (own.map (·.2))) (upd H2 D (.lst [])) { s3 with heap := pushCells (s3.heap.push { cls := .type "dict", data := .dict #[] }) scope.names } := by
    have z := I4'.pins_of (pins' := [p]) fun b hb => by
      rw [List.mem_singleton] at hb
      subst hb
      refine ⟨pushCells_keeps _ _ _ _ (Heap.get?_push_of_some _ P3.1), P3.2.1, fun e => ?_, fun hm => (List.mem_cons.mp (I3.stkSub b.1 hm)).elim P3.2.2.1 P3.2.2.2.1, P3.2.2.2.2⟩
      have e : b.1 = s3.heap.objs.size := e
      have lt := Heap.lt_size P3.1
      rw [e] at lt
      exact Nat.lt_irrefl _ lt
    exact z.toTry _
  show codeAny _ _ (.compStart (.ListComp elt [⟨tg, iter, ifs, 0⟩] scope pos) 0 (.ref it) (.ref D) (compEnvC scope (cellsFrom (s3.heap.objs.size + 1) scope.names (cloFrom X.env.cells scope.names [])) s3.heap.objs.size X.env)) (compPost (model X.prog X.w) X.A X.xe use Qf (.ref D) s3.heap.objs.size) { s3 with heap := pushCells (s3.heap.push { cls := .type "dict", data := .dict #[] }) scope.names }
  have nfp : ∀ b ∈ fp, (upd H2 D (.lst [])) b = none := fun b hb => (f3 b hb).1.1
  have pne : ∀ b ∈ fp, ∀ q ∈ X.pn ++ pins, _ := fun b hb => (f3 b hb).1.2.2.2.2.2
  generalize hce : compEnvC scope (cellsFrom (s3.heap.objs.size + 1) scope.names (cloFrom X.env.cells scope.names [])) s3.heap.objs.size X.env = ce at I4 pg pt pe ⊢
  have cL : ce.locals = s3.heap.objs.size := by subst hce; rfl
  generalize hH3 : upd H2 D (.lst []) = H3 at I3 I4 pg pt pe w0 nfp f3
  obtain ⟨s4, hs4⟩ : ∃ s4 : Shared, ({ s3 with heap := pushCells (s3.heap.push { cls := .type "dict", data := .dict #[] }) scope.names } : Shared) = s4 := ⟨_, rfl⟩
  rw [hs4] at I4 ⊢
  have st4 : tn 0 s4.heap := T.keep _ _ _ st3 fun b _ o e => by rw [← hs4]; exact pushCells_keeps _ _ _ _ (Heap.get?_push_of_some _ e)
  have hotb : HotC (blkP X p s3 H3 scope ce fp) := ⟨p, h1, List.mem_cons_self⟩
  have stat : ∀ {σ' : L2.St} {H' : Hp} {s' : Shared}, Inv (blkP X p s3 H3 scope ce fp) [] σ' H' s' → (∀ b ∈ fp, H' b = none) → ∀ b ∈ fp, FpOk (blkP X p s3 H3 scope ce fp) [] H' b := fun {σ' H' s'} I' hn b hb =>
    ⟨hn b hb, (I'.ok.exf b hb).1, I'.ok.exfs b hb, .inl hb, fun x c e => (I'.ok.exf b hb).2 x c e, fun q hq => by
      have e : q = p := by simpa using hq
      subst e
      exact pne b hb q (List.mem_append_left _ hp)⟩
  have loop : codeAny (model X.prog X.w) X.A (.compLoop (.ListComp elt [⟨tg, iter, ifs, 0⟩] scope pos) 0 (.ref it) (.ref D) ce) (compPost (model X.prog X.w) X.A X.xe use Qf (.ref D) s3.heap.objs.size) s4 := by
    refine compLoop_any (fun n s' => ∃ i H', Inv (blkP X p s3 H3 scope ce fp) [] (wipe σ (own.map (·.2))) H' s' ∧ tn i s'.heap ∧ (∀ b ∈ fp, H' b = none) ∧ W i n H') ?_ m0 ⟨0, H3, I4, st4, nfp, w0⟩
    rintro n s5 ⟨i, H5, I5, st5, n5, w5⟩
    rcases turn i n H5 w5 with ⟨stop, qq⟩ | ⟨go, Nx, hNx, step⟩
    · refine thnF (T.done (blkP X p s3 H3 scope ce fp) rfl rfl rfl hotb i [] s5 _ H5 (fun _ _ => False) I5 (stat I5 n5) st5 stop) fun r s6 ⟨hr, I6⟩ => ?_
      subst hr
      have I7 : Inv X pins σ H5 s6 := I3.call' (ch := fp) I6.os I6.base I6.hok I6.bare fun b hb => ⟨(f3 b hb).1.2.2.2.1, (f3 b hb).1.2.1, (f3 b hb).1.2.2.2.2.1, (f3 b hb).1.2.2.2.2.2⟩
      have nC : H5 s3.heap.objs.size = none := by rw [← cL]; exact I6.free
      obtain ⟨m, hn, _⟩ := I6.loc
      have hn : s6.heap.Ns ce.locals m := hn
      rw [cL] at hn
      exact hRR D s3.heap.objs.size s6 m H5 I7 qq hn (I3.fpOk (Nat.le_refl _) nC)
    · refine thnF (T.item (blkP X p s3 H3 scope ce fp) rfl rfl rfl hotb i [] s5 _ H5 (fun _ _ => False) I5 (stat I5 n5) st5 go) fun r s6 ⟨u, hr, h6⟩ => ?_
      subst hr
      refine thnF h6 fun _ s7 ⟨x, H7, I7, r7, y7, st7, n7⟩ => ?_
      refine thnF (pg.run _ s7 _ H7 x u _ (I7.pinned (stat I7 n7) (T.obj _ _ st7)) r7 (step x H7 y7)) fun _ s8 ⟨σ8, H8, I8, hw8, q8⟩ => ?_
      refine thnF (pt.run _ s8 σ8 H8 _ I8 q8) fun b s9 ⟨H9, I9, q9⟩ => ?_
      have fin : ∀ {s' : Shared} {H' : Hp}, Inv (blkP X p s3 H3 scope ce fp) ([] ++ pinsAt fp s7.heap) σ8 H' s' → Nx H' → ∃ m, m < n ∧ ∃ i H', Inv (blkP X p s3 H3 scope ce fp) [] (wipe σ (own.map (·.2))) H' s' ∧ tn i s'.heap ∧ (∀ b ∈ fp, H' b = none) ∧ W i m H' := fun {s' H'} I' nx => by
        obtain ⟨m', hm, w'⟩ := hNx H' nx
        have pin' : ∀ b ∈ fp, ∀ o, s7.heap.get? b = some o → s'.heap.get? b = some o ∧ H' b = none := fun b hb o e =>
          have z := I'.pin (b, o) (List.mem_append_right _ (List.mem_append_right _ (mem_pinsAt hb e)))
          ⟨z.1, z.2.1⟩
        refine ⟨m', hm, i + 1, H', (I'.unpinned (pins := [])).weak (by rw [← hw8, wipe_length]) (fun j v e => ?_), T.keep _ _ _ st7 fun b hb o e => (pin' b hb o e).1, fun b hb => ?_, w'⟩
        · rw [← hw8] at e
          exact (wipe_some e).1
        · obtain ⟨o, e, _⟩ := T.obj _ _ st7 b hb
          exact (pin' b hb o e).2
      cases b with
      | false => exact fin I9 q9
      | true =>
        refine thnF (pe.run _ s9 σ8 H9 _ I9 q9) fun z s10 ⟨yv, H10, I10, r10, acc, hD10, hz10, nx⟩ => ?_
        exact app_ok (X := blkP X p s3 H3 scope ce fp) I10 hD10 hz10 r10 fun s11 I11 => fin I11 nx
  exact codeAny_compStart_list loop (T.self X.A 0 _ _ _ st4 loop)
end
end Rf
namespace Rf
open PySem PySem.Spec PyProof.Rows L2
theorem pe_lcH {X : Cx} {elt tg iter : Expr} {ifs : List Expr} {scope : Scope} {own : List (Str × Nat)} {pos : Pos} {wi : TI} {g : TG} {tt : TT} {te : TE} {p : Addr × Obj} (h1 : L2H.Hot1 X.A p) (hp : p ∈ X.pn) (hN : X.N.Nodup) (hi : L2H.PIH X tg iter wi) (ok : BlkOk X.N X.env.scope scope own)
    (hg : ∀ (s : Shared) (H : Hp) (C : Addr) (cl : List (Str × Addr)) (fp : List Addr), PG (blkP X p s H scope (compEnvC scope cl C X.env) fp) tg g) (ht : ∀ (s : Shared) (H : Hp) (C : Addr) (cl : List (Str × Addr)) (fp : List Addr), PTs (blkP X p s H scope (compEnvC scope cl C X.env) fp) ifs tt)
    (he : ∀ (s : Shared) (H : Hp) (C : Addr) (cl : List (Str × Addr)) (fp : List Addr), PE (blkP X p s H scope (compEnvC scope cl C X.env) fp) elt te) (hs : ∀ x, foldedSetIterable iter X.env x = pure x := by intro _; rfl) :
    PE X (.ListComp elt [⟨tg, iter, ifs, 0⟩] scope pos) (tLc wi g tt te (own.map (·.2))) := by
  refine ⟨fun pins s σ H Q I h => ?_⟩
  rw [eval_ListComp]
  refine lc_coreH h1 hp hN I hi ok hg ht he hs h fun D C s' m H' I' q hn f => ⟨m, hn, fun h'' sb => ?_⟩
  obtain ⟨f0, f1, f2, f3, f4, f5⟩ := f
  exact ⟨.ref D, H', I'.turned (t' := s'.toks) (fun b o hb e => (sb.2 b hb).trans e) f0 f1 f3 f4 f5, rfl, q⟩
def MIH (C : Ct) (tg e : Expr) (m : IM) : Prop := ∃ t, L2H.PIH C.X tg e t ∧ SimI C t m
abbrev Ct.blkH (C : Ct) (p : Addr × Obj) (s : Shared) (H : Hp) (scope : Scope) (Cc : Addr) (cl : List (Str × Addr)) (fp : List Addr) : Ct := ⟨blkP C.X p s H scope (compEnvC scope cl Cc C.X.env) fp, fun _ _ _ _ => False, none⟩
theorem hot_blk {X : Cx} {p : Addr × Obj} {s : Shared} {H : Hp} {scope : Scope} {ce : Env} {fp : List Addr} (h1 : L2H.Hot1 X.A p) : HotC (blkP X p s H scope ce fp) := ⟨p, h1, List.mem_cons_self⟩
section
variable {C : Ct} {elt tg iter : Expr} {ifs : List Expr} {scope : Scope} {own : List (Str × Nat)} {pos : Pos} {mi : IM} {g : GM} {t : TG} {mt me : EM}
theorem me_lcH (hot : HotC C.X) (hN : C.X.N.Nodup) (hi : MIH C tg iter mi) (ok : BlkOk C.X.N C.X.env.scope scope own)
    (hg : ∀ p s H Cc cl fp, L2H.Hot1 C.X.A p → MGc (C.blkH p s H scope Cc cl fp) tg g t (own.map (·.2)))
    (ht : ∀ p s H Cc cl fp, L2H.Hot1 C.X.A p → MTs (C.blkH p s H scope Cc cl fp) ifs mt) (he : ∀ p s H Cc cl fp, L2H.Hot1 C.X.A p → ME (C.blkH p s H scope Cc cl fp) elt me) (hs : ∀ x, foldedSetIterable iter C.X.env x = pure x := by intro _; rfl) :
    ME C (.ListComp elt [⟨tg, iter, ifs, 0⟩] scope pos) (eLc mi g mt me (own.map (·.2))) := by
  obtain ⟨ti, pi, si⟩ := hi
  obtain ⟨p, h1, hp⟩ := hot
  exact ⟨_, pe_lcH (te := canE C.flat me) (tt := canT C.flat mt) h1 hp hN pi ok (fun s H Cc cl fp => (hg p s H Cc cl fp h1).1) (fun s H Cc cl fp => (ht p s H Cc cl fp h1).can) (fun s H Cc cl fp => (he p s H Cc cl fp h1).can) hs,
    SimE.lc (scope := scope) si fun s H Cc cl fp => ⟨⟨(hg p s H Cc cl fp h1).2.1.run⟩, (hg p s H Cc cl fp h1).2.2⟩⟩
end
section
variable {C : Ct} {tg a : Expr} {ml : LM} {p pos : Pos}
theorem mi_range1H (hm : C.X.mg "range" = none) (ha : MA C [a] ml) (hg : Gl C.X "range" := by rfl) (hs : starEach [a] C.X.env = [(false, eval a C.X.env)] := by rfl) : MIH C tg (.Call (.Name "range" p) [a] [] pos) (iRange1 ml) := by
  obtain ⟨t, pa, sa⟩ := ha
  refine ⟨_, L2H.pi_range1H hg hm pa hs, ⟨fun env h σ H ι Q R V p => ?_⟩⟩
  refine sa.int1 (f := fun j h1 => if RgB j then .ok (stat (rg 0 j.toNat)) h1 else .stuck) R V (by unfold iRange1 at p; exact p) fun j h1 ι' H' hm x R' p => ?_
  by_cases hj : RgB j
  · rw [if_pos hj] at p
    exact ⟨j, rfl, hj.1, hj.2, p.here x R' itr_range⟩
  · rw [if_neg hj] at p; exact p.elim
end
end Rf

set_option maxHeartbeats 2000000
/-! all(list) where an exception is handled -/
namespace Rf
open PySem PySem.Spec PyProof.Rows L2 HotX
section
variable {prog : Program} {w : World} {A : Around} {E : Value → Shared → Prop} {s : Shared}
theorem pyNext_list_end_hot {it l x1 : Addr} {i : Nat} {items : Array Value} {Q : Option Value → Shared → Prop} (hot : HotAt A x1 s.heap) (hxi : x1 ≠ it) (hit : s.heap.IsListIter it l i) (hl : s.heap.IsList l items) (hx : items[i]? = none)
    (hQ : ∀ h', Heap.ExtBut it s.heap h' → Q none { s with heap := h' }) : wpAny (model prog w) A (pyNext (.ref it)) Q E s := by
  obtain ⟨o, ho, hc, hd⟩ := id hit
  obtain ⟨ol, hol, _, nl, hdl⟩ := hl
  obtain ⟨hh, o1, vs1, h1, d1, c1⟩ := hot
  unfold pyNext
  refine wpAny_bind (wpAny_attempt (wpAny_callSpecial?_slot (name := Str.ofString "__next__") hit.typeIs slot_listiter_next (wpAny_call_entry slot_listiter_next hit.typeIs entry_listiter_next ?_ (args_listiter_next _))))
  show wpAny _ _ (field (.ref it) 0 >>= _) _ _ s
  refine wpAny_bind (wpAny_field ho hd (x := .ref l) rfl ?_)
  show wpAny _ _ (if (Value.ref l == Value.none) = true then _ else _) _ _ s
  rw [if_neg (show ¬ ((Value.ref l == Value.none) = true) from Bool.false_ne_true)]
  show wpAny _ _ (field (.ref it) 1 >>= _) _ _ s
  refine wpAny_bind (wpAny_field ho hd (x := .int i 0) rfl ?_)
  show wpAny _ _ (seqItems? (.ref l) >>= _) _ _ s
  refine wpAny_bind (wpAny_seqItems hol hdl ?_)
  simp only [Int.toNat_natCast, hx]
  refine wpAny_bind (wpAny_rule (wpAny_bind (wpAny_setField ho hd (by simp) ?_)))
  show wpAny _ _ (newExc (.type "StopIteration") [] >>= _) _ _ _
  refine wpAny_bind ?_
  simp only [newExc, newTuple]
  refine wpAny_bind (wpAny_newObj_type ?_ (by size_fits))
  refine wpAny_bind (m := firstArgMember _ _) (wpAny_of_eq (a := Value.none) (by first | rfl | (simp only [firstArgMember]; rfl)) ?_)
  refine wpAny_newObj_type ?_ (by size_fits)
  have h1' : ∀ f, (s.heap.update it f).get? x1 = some o1 := fun f => by rw [Heap.get?_update_other _ _ (Ne.symm hxi)]; exact h1
  refine raiseNew_hot ⟨hh, o1, vs1, Heap.get?_push_of_some _ (Heap.get?_push_of_some _ (h1' _)), d1, c1⟩ (Nat.ne_of_lt (Heap.lt_size (Heap.get?_push_of_some _ (h1' _)))) (Heap.get?_push_size _ rfl) rfl (by first | (simp; done) | (simp; omega) | (simp only [Array.size_append]; simp; omega)) ?_
  refine wpAny_bind (wpAny_isInstance (T := "StopIteration") (b := true) ⟨_, Heap.get?_update_self _ (Heap.get?_push_size _ rfl) rfl, rfl⟩ isSubtype_stop ?_)
  refine wpAny_pure (hQ _ ?_)
  intro b ob hb e
  have e1 : ∀ f, (s.heap.update it f).get? b = some ob := fun f => by rw [Heap.get?_update_other _ _ (Ne.symm hb)]; exact e
  rw [Heap.get?_update_other _ _ (Nat.ne_of_gt (Heap.lt_size (Heap.get?_push_of_some _ (e1 _))))]
  exact Heap.get?_push_of_some _ (Heap.get?_push_of_some _ (e1 _))
theorem walks_listH {x1 : Addr} {o1 : Obj} {vs1 : Array Value} (hh : A.handled = some (.ref x1)) (d1 : o1.data = .fields vs1) (c1 : vs1[2]? = some .none) (I ax : Addr) (hne : ax ≠ I) (hxi : x1 ≠ I) (items : Array Value) :
    Walks prog w A I [I, ax, x1] [I] items.size (fun i v => items[i]? = some v) (fun i h => (h.IsListIter I ax i ∧ h.IsList ax items) ∧ h.get? x1 = some o1) where
  sub := fun b hb => by simp at hb; simp [hb]
  frame := fun _ _ _ st hk => ⟨⟨st.1.1.at fun o e => hk I (by simp) o e, st.1.2.at fun o e => hk ax (by simp) o e⟩, hk x1 (by simp) _ st.2⟩
  item := fun i s Q E hi st hQ => by
    refine wpAny_pyNext_list_item st.1.1 st.1.2 (x := items[i]) (by simp [hi]) fun h' hit' hs' => ?_
    exact hQ _ h' s.toks (by simp [hi]) ⟨⟨hit', st.1.2.extBut hs'.extBut hne⟩, hs'.extBut x1 _ hxi st.2⟩ fun b o hb e => hs'.extBut b o (fun h => hb (by simp [h])) e
  done := fun s Q E st hQ => pyNext_list_end_hot ⟨hh, o1, vs1, st.2, d1, c1⟩ hxi st.1.1 st.1.2 (by simp) fun h' he' => hQ h' s.toks fun b o hb e => he' b o (fun h => hb (by simp [h])) e
  self := fun _ _ _ _ st hQ => wpAny_pyIter_listiter st.1.1 hQ
end
section
variable {X : Cx}
theorem cr_allH (hot : HotC X) : CallR X (.builtin "all") (rAll X.K) := by
  intro pins s σ H vs us Q I r h
  obtain ⟨a, bs, rfl, hs, q⟩ := h
  obtain ⟨its, rv, hl, _⟩ := I.list hs
  rw [Vals.ref1 r]
  have hb := rv.bls
  obtain ⟨p, ⟨hh, vs1, d1, c1⟩, hp⟩ := hot
  have P1 := (I.pin p (List.mem_append_left _ hp)).1
  refine call_all_walk (iter_any hl.isList fun s₂ e2 st hne => ?_)
  subst e2
  refine ⟨_, _, _, _, _, _, _, rfl, walks_listH (A := X.A.in1) (x1 := p.1) (o1 := p.2) hh d1 c1 _ a hne (Nat.ne_of_lt (Heap.lt_size P1)) its.toArray, ⟨st, Heap.get?_push_of_some _ P1⟩, truth_bools hb, fun h' tk hk => ?_⟩
  refine ⟨.bl _, H, I.kept fun b o eo => hk b o (fun hmem => ?_) (Heap.get?_push_of_some _ eo), ?_, q⟩
  · rcases List.mem_cons.mp hmem with e1 | hmem
    · exact absurd (e1 ▸ Heap.lt_size eo) (Nat.lt_irrefl _)
    · cases hmem
  · show Value.bool _ = Value.bool _
    rw [← L2.all_range, hb, List.size_toArray, List.length_map]
end
end Rf

set_option maxHeartbeats 2000000
/-! defs that are called where an exception is handled, and walk lists there -/
namespace Rf
open PySem PySem.Spec PyProof.Rows L2
abbrev FnHot (P : Program) (w : World) (K : PySem.W.Frag) (mg : Str → Option Value) (base : Heap) (k : Nat) (f : Addr) (fd : FuncData) (ps : List Str) (sp : Sp) : Prop := L2H.FnH P w K mg base CXN k f fd ps sp
/-- the context of such a def's body -/
abbrev ctH (P : Program) (w : World) (K : PySem.W.Frag) (mg : Str → Option Value) (base : Heap) (N : List Str) (qual : Str) (scope : Scope) (f : Addr) (cdv : Value) (A : Around) (outer : List Env) (s : Shared) (H : Hp) (E : XK) (p : Addr × Obj) : Ct :=
  ⟨L2H.cxH CXN P w K mg base N qual scope f cdv A outer s H E p, fun _ _ _ _ => False, none⟩
theorem fn_okH {P : Program} {w : World} {K : PySem.W.Frag} {mg : Str → Option Value} {base : Heap} {x qual : Str} {st : Stmt} {f : Addr} {fd : FuncData} {N ps : List Str} {k n pl : Nat} {m : SM} (F : Fun K x qual st f fd) (S : FnScope N ps (defScope st)) (hN : N.length = n) (hp : ps.length = pl)
    (hm : ∀ cdv A outer s H E p, L2H.RoomH k (A.deeper (envOfC qual (defScope st) s.heap.objs.size f cdv)) → HotC (L2H.cxH CXN P w K mg base N qual (defScope st) f cdv A outer s H E p) → MB (ctH P w K mg base N qual (defScope st) f cdv A outer s H E p) (defBody st) m) :
    FnHot P w K mg base (k + 1) f fd ps (spF K mg pl (noX (fsem n m))) := by
  subst hN hp
  obtain ⟨oc, od, kV, doc, pm, an, cdv, ct, osl, rfl, lk, hcd⟩ := F.ex
  refine L2H.fn_ofH lk hcd S (fun vs H Q E h => h.1) (fun A outer s H vs Q E p h1 hr h => ?_)
  obtain ⟨hl, ι, h, ds, R, r, q⟩ := h
  obtain ⟨t, pt, s1⟩ := hm cdv A outer s H E p hr ⟨p, h1, List.mem_cons_self⟩
  refine ⟨t, pt, ?_⟩
  refine s1.run _ h _ H ι _ R ⟨start_re N.length r, trivial⟩ ?_
  unfold noX fsem at q
  generalize m (ds.map some ++ List.replicate (N.length - ds.length) none) h = o at q
  have key : ∀ (d : D) (h' : AH), PostF K mg ι h.length H (quiet (gc h (.ok d h'))) Q E → PostF K mg ι h.length H (.ok d h') Q E := fun d h' p => by
    refine PostF.gc R ?_
    have e : quiet (gc h (.ok d h')) = gc h (.ok d h') := by
      unfold gc
      dsimp only
      repeat' split
      all_goals rfl
    rwa [e] at p
  cases o with
  | nx e h1 => exact fun ι' H' σ' x R' V' => key _ _ q ι' H' .non x R' (RD.non.mpr rfl)
  | rt d h1 => exact fun ι' H' v x R' V' => key _ _ q ι' H' v x R' V'
  | exc c fs e h1 => exact (show False from q).elim
  | bk e h1 => exact (show False from q).elim
  | ct e h1 => exact (show False from q).elim
  | stuck => exact (show False from q).elim
/-- nothing is promised -/
theorem fnHot_stuck {P : Program} {w : World} {K : PySem.W.Frag} {mg : Str → Option Value} {base : Heap} {k pl : Nat} {f : Addr} {fd : FuncData} {ps : List Str} : FnHot P w K mg base k f fd ps (spF K mg pl (noX fun _ _ => .stuck)) :=
  ⟨fun vs H Q E h => by obtain ⟨_, _, _, _, _, _, q⟩ := h; exact (show False from q).elim, fun A outer s H args us vs Q E p _ _ _ _ _ _ h => by obtain ⟨_, _, _, _, _, _, q⟩ := h; exact (show False from q).elim⟩
theorem fnOk_stuck {P : Program} {w : World} {K : PySem.W.Frag} {mg : Str → Option Value} {base : Heap} {k pl : Nat} {f : Addr} {fd : FuncData} {ps : List Str} : FnOk P w K mg base (L2N.CX P w) k f fd ps (spF K mg pl (fun _ _ => .stuck)) :=
  ⟨fun vs H Q E h => by obtain ⟨_, _, _, _, _, _, q⟩ := h; exact (show False from q).elim, fun A outer s H args us vs Q E _ _ _ _ h => by obtain ⟨_, _, _, _, _, _, q⟩ := h; exact (show False from q).elim⟩
theorem me_callH {C : Ct} {k pl : Nat} {f : Addr} {fd : FuncData} {ps : List Str} {F : List D → AH → ER} {x : Str} {p pos : Pos} {e : Expr} {es : List Expr} {ml : LM} (F0 : FnHot C.X.prog C.X.w C.X.K C.X.mg C.X.base k f fd ps (spF C.X.K C.X.mg pl (noX F))) (hr : L2H.RoomH k C.X.A) (hot : HotC C.X) (hm : C.X.mg x = some (.ref f)) (hk : PySem.W.keepIn C.X.K (.ref f) = true) (hb : Binds C.X.K fd ps [])
    (ha : MA C (e :: es) ml) (hlen : (e :: es).length = pl := by rfl) (hg : Gl C.X x := by rfl) (hdb : (x == ("__debug__" : Str)) = false := by decide) (he : starEach (e :: es) C.X.env = (false, eval e C.X.env) :: starEach es C.X.env := by rfl) (hpl : (backTo pos (starEach es C.X.env)).any (·.1) = false := by rfl) :
    ME C (.Call (.Name x p) (e :: es) [] pos) (eCall (argn pl (noX F)) ml) := by
  obtain ⟨t, pa, s⟩ := ha
  refine ⟨_, L2H.pe_callH (E := fun _ _ _ _ => False) F0 hr hot hg hm hk hb (fun _ _ _ _ _ _ _ z => z.elim) pa hdb he hpl, ⟨fun env h σ H ι Q R V q => ?_⟩⟩
  refine s.run env h σ H ι _ R V ?_
  unfold eCall at q
  cases hml : ml env h with
  | ok ds h1 =>
    rw [hml] at q
    refine fun ι' H' vs x R' r => ?_
    have q2 : PostE C ι h.length H σ (if ds.length = pl then noX F ds h1 else .stuck) Q := q
    by_cases hd : ds.length = pl
    · rw [if_pos hd] at q2
      refine ⟨by rw [← r.length]; exact hd, ι', h1, ds, R', r, ?_⟩
      have q3 := PostE.shift q2 x
      cases hF : F ds h1 with
      | ok d h2 =>
        have e : noX F ds h1 = .ok d h2 := by rw [noX_, hF]; rfl
        rw [e] at q3 ⊢
        exact q3
      | exc c fs h2 =>
        have e : noX F ds h1 = .stuck := by rw [noX_, hF]; rfl
        rw [e] at q3
        exact (show False from q3).elim
      | stuck =>
        have e : noX F ds h1 = .stuck := by rw [noX_, hF]; rfl
        rw [e] at q3
        exact (show False from q3).elim
    · rw [if_neg hd] at q2; exact q2.elim
  | exc c fs h1 => rw [hml] at q; exact q
  | stuck => rw [hml] at q; exact q
end Rf
namespace Rf
open PySem PySem.Spec PyProof.Rows L2
theorem takes0N {X : Cx} : L2N.Takes X (fun _ _ _ _ => False) := fun _ _ x => by
  obtain ⟨_, _, _, _, _, _, _, _, _, _, _, _, _, _, _, _, z⟩ := x
  exact z.elim
theorem spF_noX {K : PySem.W.Frag} {mg : Str → Option Value} {pl : Nat} {F : List D → AH → ER} {vs : List V} {H : Hp} {Q : VK} {E : XK} (h : spF K mg pl (noX F) vs H Q E) : spF K mg pl F vs H Q E := by
  obtain ⟨l, ι, h, ds, R, r, q⟩ := h
  refine ⟨l, ι, h, ds, R, r, ?_⟩
  unfold noX quiet at q
  cases e : F ds h with
  | ok d h1 => rw [e] at q; exact q
  | exc c fs h1 => rw [e] at q; exact (show False from q).elim
  | stuck => rw [e] at q; exact q
theorem fnOk_noX {P : Program} {w : World} {K : PySem.W.Frag} {mg : Str → Option Value} {base : Heap} {CX : CXT} {k pl : Nat} {f : Addr} {fd : FuncData} {ps : List Str} {F : List D → AH → ER} (h : FnOk P w K mg base CX k f fd ps (spF K mg pl F)) : FnOk P w K mg base CX k f fd ps (spF K mg pl (noX F)) :=
  ⟨fun vs H Q E z => h.len vs H Q E (spF_noX z), fun A outer s H args us vs Q E a b c d z => h.run A outer s H args us vs Q E a b c d (spF_noX z)⟩
end Rf

set_option maxHeartbeats 1000000
/-! calls where keyword-only parameters lack (their defaults stand behind the others); lcm -/
namespace Rf
open PySem PySem.Spec PyProof.Rows L2
/-- a value of a default -/
inductive Cn where
  | bl (b : Bool)
  | non
def Cn.d : Cn → D
  | .bl b => .bl b
  | .non => .non
def Cn.v : Cn → V
  | .bl b => .bl b
  | .non => .non
def Cn.u : Cn → Value
  | .bl b => .bool b
  | .non => .none
theorem Cn.rel (c : Cn) : RelV c.v c.u := by
  cases c
  · exact rfl
  · exact rfl
theorem Cn.vals : ∀ cs : List Cn, Vals (cs.map Cn.v) (cs.map Cn.u)
  | [] => .nil
  | c :: cs => .cons c.rel (Cn.vals cs)
theorem Cn.rds {K : PySem.W.Frag} {ι : Nat → Addr} {n : Nat} {H : Hp} : ∀ cs : List Cn, RDs K ι n H (cs.map Cn.d) (cs.map Cn.v)
  | [] => RDs.nil'
  | c :: cs => RDs.cons' (by cases c <;> (first | exact RD.bl.mpr rfl | exact RD.non.mpr rfl)) (Cn.rds cs)
theorem Vals.app' {vs zs : List V} {us ws : List Value} (r : Vals vs us) (q : Vals zs ws) : Vals (vs ++ zs) (us ++ ws) := by
  induction r with
  | nil => exact q
  | cons h t ih => exact .cons h ih
/-- a call where the last parameters lack -/
def eCallKd (n m : Nat) (idx : List Nat) (cs : List Cn) (F : List D → AH → ER) (ml mk : LM) : EM := fun env h => (ml env h).then fun ds h1 => (mk env h1).then fun es h2 => if ds.length = n ∧ es.length = m then F (permK idx ds es ++ cs.map Cn.d) h2 else .stuck
@[simp] theorem eCallKd_ (n m : Nat) (idx : List Nat) (cs : List Cn) (F : List D → AH → ER) (ml mk : LM) (e : AE) (h : AH) : eCallKd n m idx cs F ml mk e h = (ml e h).then fun ds h1 => (mk e h1).then fun es h2 => if ds.length = n ∧ es.length = m then F (permK idx ds es ++ cs.map Cn.d) h2 else .stuck := rfl
section
variable {C : Ct} {k pl n km : Nat} {f : Addr} {fd : FuncData} {ps ks : List Str} {F : List D → AH → ER} {x : Str} {p pos : Pos} {e : Expr} {es : List Expr} {kws : List Keyword} {ml mk : LM} {idx : List Nat} {cs : List Cn}
theorem me_callKd (F0 : FnOk C.X.prog C.X.w C.X.K C.X.mg C.X.base (L2N.CX C.X.prog C.X.w) k f fd ps (spF C.X.K C.X.mg pl F)) (hr : Room k C.X.A) (hm : C.X.mg x = some (.ref f)) (hk : PySem.W.keepIn C.X.K (.ref f) = true)
    (hb : KBn C.X.K fd ps n ks (fun us ws => permK idx us ws ++ cs.map Cn.u) (fun us ws => permK idx us ws ++ cs.map Cn.v)) (tk : L2N.Takes C.X C.W)
    (ha : MA C (e :: es) ml) (hw : MK C kws mk) (hpl2 : ∀ us ws : List D, us.length = n → ws.length = km → (permK idx us ws ++ cs.map Cn.d).length = pl) (hkm : ks.length = km := by rfl)
    (hall : (backToKw pos (keywordEach kws C.X.env)).all (·.1.isSome) = true := by rfl) (hks : (backToKw pos (keywordEach kws C.X.env)).filterMap (·.1) = ks := by rfl) (hg : Gl C.X x := by rfl) (hdb : (x == ("__debug__" : Str)) = false := by decide) (he : starEach (e :: es) C.X.env = (false, eval e C.X.env) :: starEach es C.X.env := by rfl)
    (hpl : ((backTo pos (starEach (e :: es) C.X.env)).any (·.1) || (backToKw pos (keywordEach kws C.X.env)).any (·.1.isNone)) = false := by rfl) :
    ME C (.Call (.Name x p) (e :: es) kws pos) (eCallKd n km idx cs F ml mk) := by
  subst hkm
  obtain ⟨t, pa, s⟩ := ha
  obtain ⟨t2, pk, s2⟩ := hw
  refine ⟨fun σ H Q => tCallN n ks.length (spF C.X.K C.X.mg pl F) (fun us ws => permK idx us ws ++ cs.map Cn.v) (WE C.W σ) t t2 σ H Q, ⟨fun pins s0 σ H Q I h => ?_⟩, ⟨fun env h σ H ι Q R V q => ?_⟩⟩
  · refine wpAny_Call_Name_kw (ld_glob (x := x) I hg hm ?_ hdb)
    refine PySem.W.callWith_KW (h₀ := C.X.base) I.ok.mod.kin hk hall (thn (pa.run pos pins s0 σ H _ I h) fun us s1 h1 => ?_) hpl he
    obtain ⟨vs, H1, I1, r, q⟩ := h1
    refine thn (pk.run pos pins s1 σ H1 _ I1 q) fun ws s2 h2 => ?_
    obtain ⟨zs, H2, I2, rz, l1, l2, q2⟩ := h2
    refine ⟨I2.kIn, ?_⟩
    rw [hks]
    exact runK F0 hr hb (L2N.passAt tk σ) I2 r rz l1 l2 q2
  · refine s.run env h σ H ι _ R V ?_
    unfold eCallKd at q
    cases hm : ml env h with
    | ok ds h1 =>
      rw [hm] at q
      refine fun ι' H' vs x R' r => ?_
      refine s2.run env h1 σ H' ι' _ R' (V.ext R x) ?_
      have q1 : PostE C ι h.length H σ ((mk env h1).then fun es h2 => if ds.length = n ∧ es.length = ks.length then F (permK idx ds es ++ cs.map Cn.d) h2 else .stuck) Q := q
      cases hm2 : mk env h1 with
      | ok es h2 =>
        rw [hm2] at q1
        refine fun ι2 H2 zs x2 R2 r2 => ?_
        have q2 : PostE C ι h.length H σ (if ds.length = n ∧ es.length = ks.length then F (permK idx ds es ++ cs.map Cn.d) h2 else .stuck) Q := q1
        by_cases hd : ds.length = n ∧ es.length = ks.length
        · rw [if_pos hd] at q2
          have r3 := RDs.append (permK_RDs (r.mono (x2.grow R')) r2 idx) (Cn.rds cs)
          refine ⟨by rw [← r.length]; exact hd.1, by rw [← r2.length]; exact hd.2, ?_⟩
          exact spF.of R2 r3 (by rw [← r3.length]; exact hpl2 _ _ hd.1 hd.2) (PostE.shift q2 (x.trans x2))
        · rw [if_neg hd] at q2; exact q2.elim
      | exc c fs h2 =>
        rw [hm2] at q1
        exact fun ι2 H2 Cl dd x2 => q1 ι2 H2 Cl dd (x.trans x2)
      | stuck => rw [hm2] at q1; exact q1
    | exc c fs h1 => rw [hm] at q; exact q
    | stuck => rw [hm] at q; exact q
/-- a module's name for a built-in function -/
theorem me_callBfun {id : String} {r : List V → Hp → VK → Prop} {g : List D → AH → ER} (hc : CallR C.X (.builtin id) r) (hs : CallS C r g) (hm : C.X.mg x = some (.builtin id)) (ha : MA C (e :: es) ml) (hg : Gl C.X x := by rfl) (hdb : (x == ("__debug__" : Str)) = false := by decide)
    (he : starEach (e :: es) C.X.env = (false, eval e C.X.env) :: starEach es C.X.env := by rfl) (hpl : (backTo pos (starEach es C.X.env)).any (·.1) = false := by rfl) : ME C (.Call (.Name x p) (e :: es) [] pos) (eCall g ml) := by
  obtain ⟨t, pa, s⟩ := ha
  exact ⟨_, pe_callBfun hc hg hm pa hdb he hpl, s.call hs⟩
end
/-! lcm -/
def rLcm : List V → Hp → VK → Prop := fun vs H Q => ∃ a b : Nat, vs = [.int (a : Int), .int (b : Int)] ∧ a < 2 ^ 64 ∧ b < 2 ^ 64 ∧ Q (.int ((Nat.lcm a b : Nat) : Int)) H
theorem lcm_log {a b : Nat} (ha : a < 2 ^ 64) (hb : b < 2 ^ 64) : ((((Nat.lcm 1 a).lcm b : Nat) : Int)).natAbs.log2 < bitsLine := by
  rw [Nat.lcm_one_left, Int.natAbs_natCast]
  by_cases h0 : a.lcm b = 0
  · rw [h0]; decide
  · have l1 : a.lcm b ≤ a * b := by
      have hp : 0 < a * b := by
        refine Nat.pos_of_ne_zero fun e => h0 ?_
        unfold Nat.lcm; rw [e]; simp
      exact Nat.le_of_dvd hp (Nat.lcm_dvd_mul a b)
    have l2 : a * b < 2 ^ 64 * 2 ^ 64 := Nat.mul_lt_mul_of_lt_of_lt ha hb
    have l3 : a.lcm b < 2 ^ 128 := by rw [show (2 : Nat) ^ 128 = 2 ^ 64 * 2 ^ 64 by rw [← Nat.pow_add]]; omega
    have := (Nat.log2_lt h0).mpr l3
    have : (128 : Nat) ≤ bitsLine := by decide
    omega
theorem cr_lcm {X : Cx} : CallR X (.builtin "math.lcm") rLcm := by
  intro pins s σ H vs us Q I r h
  obtain ⟨a, b, rfl, ha, hb, q⟩ := h
  obtain ⟨t, u, rfl⟩ := Vals.int2 r
  refine PySem.W.mg_lcm (by simpa using ha) (by simpa using hb) (by simpa using lcm_log ha hb) ?_
  refine ⟨.int _, H, I.tok _, ⟨_, rfl⟩, ?_⟩
  simpa [Nat.lcm_one_left] using q
open Classical in
noncomputable def cLcm (ds : List D) (h : AH) : ER := match ds with
  | [.int i, .int j] => if 0 ≤ i ∧ 0 ≤ j ∧ i.toNat < 2 ^ 64 ∧ j.toNat < 2 ^ 64 then .ok (.int ((Nat.lcm i.toNat j.toNat : Nat) : Int)) h else .stuck
  | _ => .stuck
theorem cs_lcm {C : Ct} : CallS C rLcm cLcm := by
  intro ι h H σ xs ds Q R r p
  unfold cLcm at p
  split at p
  · rename_i i j
    obtain ⟨v, vs, rfl, q1, q2⟩ := RDs.cons.mp r
    obtain ⟨w, rfl, q3⟩ := q2.one
    by_cases c : 0 ≤ i ∧ 0 ≤ j ∧ i.toNat < 2 ^ 64 ∧ j.toNat < 2 ^ 64
    · rw [if_pos c] at p
      refine ⟨i.toNat, j.toNat, ?_, c.2.2.1, c.2.2.2, p.here R (RD.int.mpr rfl)⟩
      rw [RD.int.mp q1, RD.int.mp q3, Int.toNat_of_nonneg c.1, Int.toNat_of_nonneg c.2.1]
    · rw [if_neg c] at p; exact p.elim
  · exact p.elim
theorem cLcm_N {a b : Nat} {h : AH} (ha : a < 2 ^ 64) (hb : b < 2 ^ 64) : cLcm [.int (a : Int), .int (b : Int)] h = .ok (.int ((Nat.lcm a b : Nat) : Int)) h := by
  unfold cLcm
  dsimp only
  rw [if_pos ⟨by omega, by omega, by simpa using ha, by simpa using hb⟩, Int.toNat_natCast, Int.toNat_natCast]
end Rf

/-! printed by mk.py: the plain function of each def -/
namespace Law
open PySem Rf
noncomputable def m_is_whole : SM := (sRet (eAnd (eCall cIsi (lCons (eVar 0) (lCons (eC (.ty "int")) lNil))) (eNot (eCall cIsi (lCons (eVar 0) (lCons (eC (.ty "bool")) lNil))))))
noncomputable def c_is_whole : List D → AH → ER := fsem 1 m_is_whole
noncomputable def m_is_index : SM := (sRet (eAnd (eCall (argn 1 c_is_whole) (lCons (eVar 0) lNil)) (eChain oLe oLt (eC (.int 0)) (eVar 0) (eVar 1))))
noncomputable def c_is_index : List D → AH → ER := fsem 2 m_is_index
noncomputable def m_identity : SM := (sRet (eRg1 true (eVar 0)))
noncomputable def c_identity : List D → AH → ER := fsem 1 m_identity
noncomputable def wc_cycle_at_1 : EM := (eOp oNe (eOp oIx (eVar 0) (eOp oIx (eVar 2) (eUn oNeg (eC (.int 1))))) (eVar 1))
noncomputable def lb_cycle_at_1 : SM := (sExpr (eMeth "list" mAppend (eVar 2) (lCons (eOp oIx (eVar 0) (eOp oIx (eVar 2) (eUn oNeg (eC (.int 1))))) lNil)))
noncomputable def m_cycle_at : SM := (sSeq (sSet 2 (eLst (lCons (eVar 1) lNil)))
  (sSeq (sWhile wc_cycle_at_1 lb_cycle_at_1)
  (sRet (eVar 2))))
noncomputable def c_cycle_at : List D → AH → ER := fsem 3 m_cycle_at
noncomputable def lc_cycles_of_1 : EM := (eLc (iVal (eVar 0)) (gVar 4) (eC (.bl true)) (eC (.bl false)) [4])
noncomputable def lb_cycles_of_2 : SM := (sAsg (eC (.bl true)) (fun d e h => onlyNx ((gSub putL (eVar 3) (eVar 7)) d e h)))
noncomputable def lb_cycles_of_1 : SM := (sIf (eNot (eUn oTruth (eOp oIx (eVar 3) (eVar 5))))
    (sSeq (sSet 6 (eCall (argn 2 c_cycle_at) (lCons (eVar 0) (lCons (eVar 5) lNil))))
  (sSeq (sFor (iVal (eVar 6)) (gVar 7) lb_cycles_of_2)
  (sIf (eOr (eUn oTruth (eVar 1)) (eOp oGt (eCall cLen (lCons (eVar 6) lNil)) (eC (.int 1))))
    (sExpr (eMeth "list" mAppend (eVar 2) (lCons (eCall cTuple (lCons (eVar 6) lNil)) lNil)))
    sPass)))
    sPass)
noncomputable def m_cycles_of : SM := (sSeq (sSet 2 (eLst lNil))
  (sSeq (sSet 3 lc_cycles_of_1)
  (sSeq (sFor (iRange1 (lCons (eCall cLen (lCons (eVar 0) lNil)) lNil)) (gVar 5) lb_cycles_of_1)
  (sRet (eCall cTuple (lCons (eVar 2) lNil))))))
noncomputable def c_cycles_of : List D → AH → ER := fsem 8 m_cycles_of
noncomputable def lc_shape_of_1 : EM := (eLc (iVal (eCallK 1 1 [0] c_cycles_of (lCons (eVar 0) lNil) (lCons (eC (.bl true)) lNil))) (gVar 1) (eC (.bl true)) (eCall cLen (lCons (eVar 1) lNil)) [1])
noncomputable def m_shape_of : SM := (sRet (eCall cTuple (lCons (eCallBK cSortedR (lCons lc_shape_of_1 lNil) (lCons (eC (.bl true)) lNil)) lNil)))
noncomputable def c_shape_of : List D → AH → ER := fsem 2 m_shape_of
noncomputable def lb_period_1 : SM := (sSet 1 (eCall cLcm (lCons (eVar 1) (lCons (eCall cLen (lCons (eVar 2) lNil)) lNil))))
noncomputable def m_period : SM := (sSeq (sSet 1 (eC (.int 1)))
  (sSeq (sFor (iVal (eCallKd 1 0 [] [(.bl false)] c_cycles_of (lCons (eVar 0) lNil) lNil)) (gVar 2) lb_period_1)
  (sRet (eVar 1))))
noncomputable def c_period : List D → AH → ER := fsem 3 m_period
noncomputable def lc_sign_1 : EM := (eLc (iVal (eCallKd 1 0 [] [(.bl false)] c_cycles_of (lCons (eVar 0) lNil) lNil)) (gVar 2) (eOp oEq (eOp oMod (eCall cLen (lCons (eVar 2) lNil)) (eC (.int 2))) (eC (.int 0))) (eVar 2) [2])
noncomputable def m_sign : SM := (sSeq (sSet 1 (eCall cLen (lCons lc_sign_1 lNil)))
  (sRet (eIf (eOp oEq (eOp oMod (eVar 1) (eC (.int 2))) (eC (.int 0))) (eC (.int 1)) (eUn oNeg (eC (.int 1))))))
noncomputable def c_sign : List D → AH → ER := fsem 3 m_sign
noncomputable def lc__are_cycles_1 : EM := (eLc (iRange1 (lCons (eVar 1) lNil)) (gVar 3) (eC (.bl true)) (eC (.bl false)) [3])
noncomputable def lb__are_cycles_2 : SM := (sSeq (sIf (eOr (eNot (eUn oTruth (eCall (argn 2 c_is_index) (lCons (eVar 5) (lCons (eVar 1) lNil))))) (eUn oTruth (eOp oIx (eVar 2) (eVar 5))))
    (sRet (eC (.bl false)))
    sPass)
  (sAsg (eC (.bl true)) (fun d e h => onlyNx ((gSub putL (eVar 2) (eVar 5)) d e h))))
noncomputable def lb__are_cycles_1 : SM := (sSeq (sIf (eOr (eNot (eUn oTruth (eCall cIsi (lCons (eVar 4) (lCons (eC (.ty "tuple")) lNil))))) (eOp oEq (eCall cLen (lCons (eVar 4) lNil)) (eC (.int 0))))
    (sRet (eC (.bl false)))
    sPass)
  (sFor (iVal (eVar 4)) (gVar 5) lb__are_cycles_2))
noncomputable def m__are_cycles : SM := (sSeq (sIf (eNot (eUn oTruth (eCall cIsi (lCons (eVar 0) (lCons (eC (.ty "tuple")) lNil)))))
    (sRet (eC (.bl false)))
    sPass)
  (sSeq (sSet 2 lc__are_cycles_1)
  (sSeq (sFor (iVal (eVar 0)) (gVar 4) lb__are_cycles_1)
  (sRet (eC (.bl true))))))
noncomputable def c__are_cycles : List D → AH → ER := fsem 6 m__are_cycles
noncomputable def lb_from_cycles_2 : SM := (sAsg (eOp oIx (eVar 3) (eOp oMod (eOp oAdd (eVar 4) (eC (.int 1))) (eCall cLen (lCons (eVar 3) lNil)))) (fun d e h => onlyNx ((gSub putL (eVar 2) (eVar 5)) d e h)))
noncomputable def lb_from_cycles_1 : SM := (sFor (iEnum2 (eVar 3)) (gTup 2 (gCons (gVar 4) (gCons (gVar 5) gNils))) lb_from_cycles_2)
noncomputable def m_from_cycles : SM := (sSeq (sIf (eNot (eUn oTruth (eCall (argn 2 c__are_cycles) (lCons (eVar 0) (lCons (eVar 1) lNil)))))
    (sRaise "InvalidCycles" ["value"] (lCons (eVar 0) lNil))
    sPass)
  (sSeq (sSet 2 (eCall cList (lCons (eCall (argn 1 c_identity) (lCons (eVar 1) lNil)) lNil)))
  (sSeq (sFor (iVal (eVar 0)) (gVar 3) lb_from_cycles_1)
  (sRet (eCall cTuple (lCons (eVar 2) lNil))))))
noncomputable def c_from_cycles : List D → AH → ER := fsem 6 m_from_cycles
noncomputable def lb__law_bag_1 : SM := (sSet 1 (eOp oMulA (eVar 1) (eVar 1)))
noncomputable def lc__law_bag_1 : EM := (eLc (iVal (eSl (eVar 0) none (some (eC (.int 63))))) (gVar 4) (eC (.bl true)) (eCall cInt (lCons (eVar 4) lNil)) [4])
noncomputable def lc__law_bag_2 : EM := (eLc (iVal (eVar 3)) (gVar 4) (eOp oGe (eVar 4) (eOp oPowB (eC (.int 10)) (eC (.int 18)))) (eOp oMod (eCall cInt (lCons (eVar 4) lNil)) (eVar 1)) [4])
noncomputable def lc__law_bag_3 : EM := (eLc (iVal (eVar 3)) (gVar 4) (eC (.bl true)) (eOp oMod (eCall cInt (lCons (eVar 4) lNil)) (eC (.int 2147483647))) [4])
noncomputable def m__law_bag : SM := (sSeq (sSet 1 (eOp oPowB (eC (.int 10)) (eC (.int 60))))
  (sSeq (sFor (iRange1 (lCons (eC (.int 4)) lNil)) (gVar 2) lb__law_bag_1)
  (sSeq (sSet 3 lc__law_bag_1)
  (sSeq (sSet 5 lc__law_bag_2)
  (sRet (eLst (lCons (eVar 5) (lCons (eC (.int 0)) (lCons lc__law_bag_3 (lCons (eC (.int 0)) lNil))))))))))
noncomputable def c__law_bag : List D → AH → ER := fsem 6 m__law_bag
noncomputable def m__law_take : SM := (sSeq (sIf (eAnd (eOp oEq (eOp oIx (eVar 0) (eC (.int 1))) (eC (.int 0))) (eUn oTruth (eOp oIx (eVar 0) (eC (.int 0)))))
    (sAsg (eMeth "list" mPopAt (eOp oIx (eVar 0) (eC (.int 0))) (lCons (eC (.int 0)) lNil)) (fun d e h => onlyNx ((gSub putL (eVar 0) (eC (.int 1))) d e h)))
    sPass)
  (sSeq (sIf (eOp oGt (eOp oIx (eVar 0) (eC (.int 1))) (eC (.int 0)))
    (sSeq (sSet 2 (eOp oMod (eCall cInt (lCons (eOp oIx (eVar 0) (eC (.int 1))) lNil)) (eVar 1)))
  (sSeq (sAsg (eOp oDiv (eCall cInt (lCons (eOp oIx (eVar 0) (eC (.int 1))) lNil)) (eVar 1)) (fun d e h => onlyNx ((gSub putL (eVar 0) (eC (.int 1))) d e h)))
  (sRet (eVar 2))))
    sPass)
  (sSeq (sAsg (eOp oAdd (eOp oIx (eVar 0) (eC (.int 3))) (eC (.int 1))) (fun d e h => onlyNx ((gSub putL (eVar 0) (eC (.int 3))) d e h)))
  (sSeq (sSet 3 (eOp oIx (eVar 0) (eC (.int 2))))
  (sSeq (sSet 4 (eC (.int 0)))
  (sSeq (sIf (eUn oTruth (eVar 3))
    (sSet 4 (eOp oIx (eVar 3) (eOp oMod (eCall cInt (lCons (eOp oIx (eVar 0) (eC (.int 3))) lNil)) (eCall cLen (lCons (eVar 3) lNil)))))
    sPass)
  (sSeq (sSet 5 (eOp oMod (eCall cInt (lCons (eOp oAdd (eOp oAdd (eOp oAdd (eOp oMulA (eVar 4) (eC (.int 48271))) (eOp oMulA (eOp oIx (eVar 0) (eC (.int 3))) (eC (.int 69621)))) (eOp oMulA (eCall cLen (lCons (eVar 3) lNil)) (eC (.int 7919)))) (eC (.int 12345))) lNil)) (eC (.int 2147483647))))
  (sSeq (sSet 5 (eOp oMod (eCall cInt (lCons (eOp oAdd (eOp oAdd (eOp oMulA (eVar 5) (eVar 5)) (eOp oMulA (eVar 5) (eC (.int 16807)))) (eOp oIx (eVar 0) (eC (.int 3)))) lNil)) (eC (.int 2147483629))))
  (sSeq (sSet 5 (eOp oMod (eCall cInt (lCons (eOp oAdd (eOp oAdd (eOp oMulA (eVar 5) (eVar 5)) (eOp oMulA (eVar 5) (eC (.int 40692)))) (eC (.int 777))) lNil)) (eC (.int 2147483587))))
  (sRet (eOp oMod (eOp oDiv (eVar 5) (eC (.int 11))) (eVar 1))))))))))))
noncomputable def c__law_take : List D → AH → ER := fsem 6 m__law_take
noncomputable def lc__law_alike_1 (R : List D → AH → ER) : EM := (eLc (iRange1 (lCons (eCall cLen (lCons (eVar 1) lNil)) lNil)) (gVar 2) (eC (.bl true)) (eCall (argn 2 R) (lCons (eOp oIx (eVar 0) (eVar 2)) (lCons (eOp oIx (eVar 1) (eVar 2)) lNil))) [2])
noncomputable def m__law_alike (R : List D → AH → ER) : SM := (sSeq (sIf (eUn oTruth (eCall cIsi (lCons (eVar 1) (lCons (eC (.ty "tuple")) lNil))))
    (sSeq (sIf (eOr (eNot (eUn oTruth (eCall cIsi (lCons (eVar 0) (lCons (eC (.ty "tuple")) lNil))))) (eOp oNe (eCall cLen (lCons (eVar 0) lNil)) (eCall cLen (lCons (eVar 1) lNil))))
    (sRet (eC (.bl false)))
    sPass)
  (sRet (eCall cAll (lCons (lc__law_alike_1 R) lNil))))
    sPass)
  (sSeq (sIf (eOp oIs (eVar 1) (eC .non))
    (sRet (eOp oIs (eVar 0) (eC .non)))
    sPass)
  (sSeq (sIf (eOr (eUn oTruth (eCall cIsi (lCons (eVar 1) (lCons (eC (.ty "bool")) lNil)))) (eUn oTruth (eCall cIsi (lCons (eVar 0) (lCons (eC (.ty "bool")) lNil)))))
    (sRet (eAnd (eCall cIsi (lCons (eVar 1) (lCons (eC (.ty "bool")) lNil))) (eAnd (eCall cIsi (lCons (eVar 0) (lCons (eC (.ty "bool")) lNil))) (eOp oEq (eVar 0) (eVar 1)))))
    sPass)
  (sSeq (sIf (eUn oTruth (eCall cIsi (lCons (eVar 1) (lCons (eC (.ty "int")) lNil))))
    (sRet (eAnd (eCall cIsi (lCons (eVar 0) (lCons (eC (.ty "int")) lNil))) (eOp oEq (eVar 0) (eVar 1))))
    sPass)
  (sRet (eAnd (eCall cIsi (lCons (eVar 0) (lCons (eC (.ty "str")) lNil))) (eOp oEq (eVar 0) (eVar 1))))))))
noncomputable def cr__law_alike : Nat → List D → AH → ER
  | 0 => fun _ _ => .stuck
  | j + 1 => fsem 3 (m__law_alike (noX (cr__law_alike j)))
noncomputable def c__law_alike : List D → AH → ER := cr__law_alike 6
noncomputable def m__law_size : SM := (sSeq (sSet 1 (eCall (argn 2 c__law_take) (lCons (eVar 0) (lCons (eC (.int 6)) lNil))))
  (sSeq (sIf (eOp oEq (eVar 1) (eC (.int 0)))
    (sRet (eOp oAdd (eC (.int 1)) (eCall (argn 2 c__law_take) (lCons (eVar 0) (lCons (eC (.int 24)) lNil)))))
    sPass)
  (sSeq (sIf (eOp oEq (eVar 1) (eC (.int 1)))
    (sRet (eOp oAdd (eC (.int 1)) (eCall (argn 2 c__law_take) (lCons (eVar 0) (lCons (eC (.int 60)) lNil)))))
    sPass)
  (sRet (eOp oAdd (eC (.int 1)) (eCall (argn 2 c__law_take) (lCons (eVar 0) (lCons (eC (.int 7)) lNil))))))))
noncomputable def c__law_size : List D → AH → ER := fsem 2 m__law_size
noncomputable def lc__law_perm_1 : EM := (eLc (iRange1 (lCons (eVar 1) lNil)) (gVar 5) (eC (.bl true)) (eOp oMod (eOp oAdd (eVar 5) (eVar 4)) (eVar 1)) [5])
noncomputable def lb__law_perm_1 : SM := (sExpr (eMeth "list" mAppend (eVar 7) (lCons (eMeth "list" mPopAt (eVar 3) (lCons (eCall (argn 2 c__law_take) (lCons (eVar 0) (lCons (eOp oSub (eVar 1) (eVar 5)) lNil))) lNil)) lNil)))
noncomputable def m__law_perm : SM := (sSeq (sSet 2 (eCall (argn 2 c__law_take) (lCons (eVar 0) (lCons (eC (.int 6)) lNil))))
  (sSeq (sSet 3 (eRg1 false (eVar 1)))
  (sSeq (sIf (eOp oEq (eVar 2) (eC (.int 0)))
    (sRet (eCall cTuple (lCons (eVar 3) lNil)))
    sPass)
  (sSeq (sSet 4 (eCall (argn 2 c__law_take) (lCons (eVar 0) (lCons (eVar 1) lNil))))
  (sSeq (sIf (eOp oEq (eVar 2) (eC (.int 1)))
    (sRet (eCall cTuple (lCons lc__law_perm_1 lNil)))
    sPass)
  (sSeq (sIf (eOp oEq (eVar 2) (eC (.int 2)))
    (sSeq (sSet 6 (eCall (argn 2 c__law_take) (lCons (eVar 0) (lCons (eVar 1) lNil))))
  (sSeq (sAsg (eVar 6) (fun d e h => onlyNx ((gSub putL (eVar 3) (eVar 4)) d e h)))
  (sSeq (sAsg (eVar 4) (fun d e h => onlyNx ((gSub putL (eVar 3) (eVar 6)) d e h)))
  (sRet (eCall cTuple (lCons (eVar 3) lNil))))))
    sPass)
  (sSeq (sSet 7 (eLst (lCons (eMeth "list" mPopAt (eVar 3) (lCons (eVar 4) lNil)) lNil)))
  (sSeq (sFor (iRange2 (lCons (eC (.int 1)) (lCons (eVar 1) lNil))) (gVar 5) lb__law_perm_1)
  (sRet (eCall cTuple (lCons (eVar 7) lNil)))))))))))
noncomputable def c__law_perm : List D → AH → ER := fsem 8 m__law_perm
noncomputable def lb__law_laps_2 : SM := (sSeq (sIf (eUn oTruth (eOp oIx (eVar 2) (eVar 5)))
    sBreak
    sPass)
  (sSeq (sAsg (eC (.bl true)) (fun d e h => onlyNx ((gSub putL (eVar 2) (eVar 5)) d e h)))
  (sSeq (sExpr (eMeth "list" mAppend (eVar 4) (lCons (eVar 5) lNil)))
  (sSet 5 (eOp oIx (eVar 0) (eVar 5))))))
noncomputable def lb__law_laps_1 : SM := (sSeq (sSet 4 (eLst lNil))
  (sSeq (sSet 5 (eVar 3))
  (sSeq (sFor (iRange1 (lCons (eCall cLen (lCons (eVar 0) lNil)) lNil)) (gVar 6) lb__law_laps_2)
  (sIf (eUn oTruth (eVar 4))
    (sExpr (eMeth "list" mAppend (eVar 1) (lCons (eVar 4) lNil)))
    sPass))))
noncomputable def m__law_laps : SM := (sSeq (sSet 1 (eLst lNil))
  (sSeq (sSet 2 (eOp oMulA (eLst (lCons (eC (.bl false)) lNil)) (eCall cLen (lCons (eVar 0) lNil))))
  (sSeq (sFor (iRange1 (lCons (eCall cLen (lCons (eVar 0) lNil)) lNil)) (gVar 3) lb__law_laps_1)
  (sRet (eVar 1)))))
noncomputable def c__law_laps : List D → AH → ER := fsem 7 m__law_laps
noncomputable def lc__law_parity_1 : EM := (eLc (iVal (eCall (argn 1 c__law_laps) (lCons (eVar 0) lNil))) (gVar 2) (eOp oEq (eOp oMod (eCall cLen (lCons (eVar 2) lNil)) (eC (.int 2))) (eC (.int 0))) (eVar 2) [2])
noncomputable def m__law_parity : SM := (sSeq (sSet 1 lc__law_parity_1)
  (sRet (eOp oSub (eC (.int 1)) (eOp oMulA (eC (.int 2)) (eOp oMod (eCall cLen (lCons (eVar 1) lNil)) (eC (.int 2)))))))
noncomputable def c__law_parity : List D → AH → ER := fsem 3 m__law_parity
noncomputable def lb__law_period_2 : SM := (sSeq (sIf (eOp oEq (eOp oMod (eVar 1) (eCall cLen (lCons (eVar 2) lNil))) (eC (.int 0)))
    sBreak
    sPass)
  (sSet 1 (eOp oAdd (eVar 1) (eVar 3))))
noncomputable def lb__law_period_1 : SM := (sSeq (sSet 3 (eVar 1))
  (sFor (iRange1 (lCons (eCall cLen (lCons (eVar 2) lNil)) lNil)) (gVar 4) lb__law_period_2))
noncomputable def m__law_period : SM := (sSeq (sSet 1 (eC (.int 1)))
  (sSeq (sFor (iVal (eCall (argn 1 c__law_laps) (lCons (eVar 0) lNil))) (gVar 2) lb__law_period_1)
  (sRet (eVar 1))))
noncomputable def c__law_period : List D → AH → ER := fsem 5 m__law_period
noncomputable def lc__law_plain_1 : EM := (eLc (iVal (eVar 0)) (gVar 1) (eC (.bl true)) (eCall cTuple (lCons (eVar 1) lNil)) [1])
noncomputable def m__law_plain : SM := (sRet (eCall cTuple (lCons lc__law_plain_1 lNil)))
noncomputable def c__law_plain : List D → AH → ER := fsem 2 m__law_plain
noncomputable def lc__law_described_1 : EM := (eLc (iVal (eVar 1)) (gVar 3) (eOp oGt (eCall cLen (lCons (eVar 3) lNil)) (eC (.int 1))) (eVar 3) [3])
noncomputable def lc__law_described_2 : EM := (eLc (iVal (eVar 1)) (gVar 3) (eC (.bl true)) (eCall cLen (lCons (eVar 3) lNil)) [3])
noncomputable def m__law_described : SM := (sSeq (sSet 1 (eCall (argn 1 c__law_laps) (lCons (eVar 0) lNil)))
  (sSeq (sSet 2 (eCall (argn 1 c__law_plain) (lCons lc__law_described_1 lNil)))
  (sSeq (sSet 4 (eAnd (eCall (argn 2 c__law_alike) (lCons (eCallKd 1 0 [] [(.bl false)] c_cycles_of (lCons (eVar 0) lNil) lNil) (lCons (eVar 2) lNil))) (eCall (argn 2 c__law_alike) (lCons (eCallK 1 1 [0] c_cycles_of (lCons (eVar 0) lNil) (lCons (eC (.bl false)) lNil)) (lCons (eVar 2) lNil)))))
  (sSeq (sSet 4 (eAnd (eVar 4) (eCall (argn 2 c__law_alike) (lCons (eCallK 1 1 [0] c_cycles_of (lCons (eVar 0) lNil) (lCons (eC (.bl true)) lNil)) (lCons (eCall (argn 1 c__law_plain) (lCons (eVar 1) lNil)) lNil)))))
  (sSeq (sSet 4 (eAnd (eVar 4) (eCall (argn 2 c__law_alike) (lCons (eCallK 0 2 [1, 0] c_cycles_of lNil (lCons (eC (.bl true)) (lCons (eVar 0) lNil))) (lCons (eCall (argn 1 c__law_plain) (lCons (eVar 1) lNil)) lNil)))))
  (sSeq (sSet 5 (eCall cTuple (lCons (eCallBK cSortedR (lCons lc__law_described_2 lNil) (lCons (eC (.bl true)) lNil)) lNil)))
  (sSeq (sSet 4 (eAnd (eVar 4) (eAnd (eCall (argn 2 c__law_alike) (lCons (eCall (argn 1 c_shape_of) (lCons (eVar 0) lNil)) (lCons (eVar 5) lNil))) (eCall (argn 2 c__law_alike) (lCons (eCallK 0 1 [0] c_shape_of lNil (lCons (eVar 0) lNil)) (lCons (eVar 5) lNil))))))
  (sSeq (sSet 5 (eCall (argn 1 c__law_period) (lCons (eVar 0) lNil)))
  (sSeq (sSet 4 (eAnd (eVar 4) (eAnd (eCall (argn 2 c__law_alike) (lCons (eCall (argn 1 c_period) (lCons (eVar 0) lNil)) (lCons (eVar 5) lNil))) (eCall (argn 2 c__law_alike) (lCons (eCallK 0 1 [0] c_period lNil (lCons (eVar 0) lNil)) (lCons (eVar 5) lNil))))))
  (sRet (eAnd (eVar 4) (eCall (argn 2 c__law_alike) (lCons (eCall (argn 1 c_sign) (lCons (eVar 0) lNil)) (lCons (eCall (argn 1 c__law_parity) (lCons (eVar 0) lNil)) lNil))))))))))))))
noncomputable def c__law_described : List D → AH → ER := fsem 6 m__law_described
noncomputable def lb__law_turned_1 : SM := (sSeq (sSet 4 (eCall (argn 2 c__law_take) (lCons (eVar 0) (lCons (eCall cLen (lCons (eVar 3) lNil)) lNil))))
  (sIf (eOr (eOp oGt (eCall cLen (lCons (eVar 3) lNil)) (eC (.int 1))) (eOp oEq (eCall (argn 2 c__law_take) (lCons (eVar 0) (lCons (eC (.int 2)) lNil))) (eC (.int 1))))
    (sExpr (eMeth "list" mAppend (eVar 2) (lCons (eOp oAdd (eSl (eVar 3) (some (eVar 4)) none) (eSl (eVar 3) none (some (eVar 4)))) lNil)))
    sPass))
noncomputable def lb__law_turned_2 : SM := (sExpr (eMeth "list" mAppend (eVar 5) (lCons (eMeth "list" mPopAt (eVar 2) (lCons (eCall (argn 2 c__law_take) (lCons (eVar 0) (lCons (eCall cLen (lCons (eVar 2) lNil)) lNil))) lNil)) lNil)))
noncomputable def m__law_turned : SM := (sSeq (sSet 2 (eLst lNil))
  (sSeq (sFor (iVal (eCall (argn 1 c__law_laps) (lCons (eVar 1) lNil))) (gVar 3) lb__law_turned_1)
  (sSeq (sSet 5 (eLst lNil))
  (sSeq (sFor (iRange1 (lCons (eCall cLen (lCons (eVar 2) lNil)) lNil)) (gVar 6) lb__law_turned_2)
  (sRet (eVar 5))))))
noncomputable def c__law_turned : List D → AH → ER := fsem 7 m__law_turned
noncomputable def m__law_put : SM := (sSeq (sSet 3 (eCall (argn 2 c__law_take) (lCons (eVar 0) (lCons (eOp oAdd (eCall cLen (lCons (eVar 1) lNil)) (eC (.int 1))) lNil))))
  (sSeq (sIf (eOp oEq (eVar 3) (eCall cLen (lCons (eVar 1) lNil)))
    (sRet (eOp oAdd (eVar 1) (eLst (lCons (eLst (lCons (eVar 2) lNil)) lNil))))
    sPass)
  (sSeq (sSet 4 (eOp oIx (eVar 1) (eVar 3)))
  (sSeq (sSet 5 (eCall (argn 2 c__law_take) (lCons (eVar 0) (lCons (eOp oAdd (eCall cLen (lCons (eVar 4) lNil)) (eC (.int 1))) lNil))))
  (sRet (eOp oAdd (eOp oAdd (eSl (eVar 1) none (some (eVar 3))) (eLst (lCons (eOp oAdd (eOp oAdd (eSl (eVar 4) none (some (eVar 5))) (eLst (lCons (eVar 2) lNil))) (eSl (eVar 4) (some (eVar 5)) none)) lNil))) (eSl (eVar 1) (some (eOp oAdd (eVar 3) (eC (.int 1)))) none)))))))
noncomputable def c__law_put : List D → AH → ER := fsem 6 m__law_put
noncomputable def lc__law_without_1 : EM := (eLc (iVal (eVar 3)) (gVar 5) (eOp oNe (eVar 5) (eVar 1)) (eVar 5) [5])
noncomputable def lb__law_without_1 : SM := (sSeq (sSet 4 lc__law_without_1)
  (sIf (eUn oTruth (eVar 4))
    (sExpr (eMeth "list" mAppend (eVar 2) (lCons (eVar 4) lNil)))
    sPass))
noncomputable def m__law_without : SM := (sSeq (sSet 2 (eLst lNil))
  (sSeq (sFor (iVal (eVar 0)) (gVar 3) lb__law_without_1)
  (sRet (eVar 2))))
noncomputable def c__law_without : List D → AH → ER := fsem 6 m__law_without
noncomputable def m__law_spoilt : SM := (sSeq (sSet 3 (eCall (argn 2 c__law_take) (lCons (eVar 0) (lCons (eC (.int 9)) lNil))))
  (sSeq (sIf (eOp oEq (eVar 3) (eC (.int 0)))
    (sSeq (sSet 4 (eCall (argn 2 c__law_take) (lCons (eVar 0) (lCons (eOp oAdd (eCall cLen (lCons (eVar 1) lNil)) (eC (.int 1))) lNil))))
  (sRet (eCall (argn 1 c__law_plain) (lCons (eOp oAdd (eOp oAdd (eSl (eVar 1) none (some (eVar 4))) (eLst (lCons (eLst lNil) lNil))) (eSl (eVar 1) (some (eVar 4)) none)) lNil))))
    sPass)
  (sSeq (sIf (eOp oEq (eVar 3) (eC (.int 1)))
    (sRet (eCall (argn 1 c__law_plain) (lCons (eCall (argn 3 c__law_put) (lCons (eVar 0) (lCons (eVar 1) (lCons (eOp oAdd (eVar 2) (eCall (argn 2 c__law_take) (lCons (eVar 0) (lCons (eC (.int 3)) lNil)))) lNil)))) lNil)))
    sPass)
  (sSeq (sIf (eOp oEq (eVar 3) (eC (.int 2)))
    (sRet (eCall (argn 1 c__law_plain) (lCons (eCall (argn 3 c__law_put) (lCons (eVar 0) (lCons (eVar 1) (lCons (eOp oSub (eUn oNeg (eC (.int 1))) (eCall (argn 2 c__law_take) (lCons (eVar 0) (lCons (eC (.int 3)) lNil)))) lNil)))) lNil)))
    sPass)
  (sSeq (sIf (eOr (eOp oEq (eVar 3) (eC (.int 3))) (eAnd (eOp oEq (eVar 3) (eC (.int 4))) (eNot (eUn oTruth (eVar 1)))))
    (sSeq (sSet 4 (eCall (argn 2 c__law_take) (lCons (eVar 0) (lCons (eVar 2) lNil))))
  (sRet (eCall (argn 1 c__law_plain) (lCons (eCall (argn 3 c__law_put) (lCons (eVar 0) (lCons (eCall (argn 3 c__law_put) (lCons (eVar 0) (lCons (eCall (argn 2 c__law_without) (lCons (eVar 1) (lCons (eVar 4) lNil))) (lCons (eVar 4) lNil)))) (lCons (eVar 4) lNil)))) lNil))))
    sPass)
  (sSeq (sIf (eOp oEq (eVar 3) (eC (.int 4)))
    (sRet (eCall (argn 1 c__law_plain) (lCons (eOp oAdd (eVar 1) (eLst (lCons (eOp oIx (eVar 1) (eCall (argn 2 c__law_take) (lCons (eVar 0) (lCons (eCall cLen (lCons (eVar 1) lNil)) lNil)))) lNil))) lNil)))
    sPass)
  (sSeq (sIf (eOp oEq (eVar 3) (eC (.int 5)))
    (sSeq (sSet 5 (eCall (argn 2 c__law_take) (lCons (eVar 0) (lCons (eCall cMin2 (lCons (eVar 2) (lCons (eC (.int 2)) lNil))) lNil))))
  (sRet (eCall (argn 1 c__law_plain) (lCons (eCall (argn 3 c__law_put) (lCons (eVar 0) (lCons (eCall (argn 2 c__law_without) (lCons (eVar 1) (lCons (eVar 5) lNil))) (lCons (eOp oEq (eVar 5) (eC (.int 1))) lNil)))) lNil))))
    sPass)
  (sSeq (sIf (eOp oEq (eVar 3) (eC (.int 6)))
    (sSeq (sSet 5 (eCall (argn 2 c__law_take) (lCons (eVar 0) (lCons (eVar 2) lNil))))
  (sRet (eCall (argn 1 c__law_plain) (lCons (eCall (argn 3 c__law_put) (lCons (eVar 0) (lCons (eCall (argn 2 c__law_without) (lCons (eVar 1) (lCons (eVar 5) lNil))) (lCons (eCall cStr (lCons (eVar 5) lNil)) lNil)))) lNil))))
    sPass)
  (sSeq (sIf (eOp oEq (eVar 3) (eC (.int 7)))
    (sRet (eCall (argn 1 c__law_plain) (lCons (eCall (argn 3 c__law_put) (lCons (eVar 0) (lCons (eVar 1) (lCons (eOp oIx (eLst (lCons (eC .non) (lCons (eTup lNil) (lCons (eTup (lCons (eC (.int 0)) lNil)) (lCons (eC (.str (Str.ofString ""))) lNil))))) (eCall (argn 2 c__law_take) (lCons (eVar 0) (lCons (eC (.int 4)) lNil)))) lNil)))) lNil)))
    sPass)
  (sSeq (sSet 6 (eLst (lCons (eC .non) (lCons (eC (.bl true)) (lCons (eC (.int 0)) (lCons (eC (.str (Str.ofString "()"))) (lCons (eC (.str (Str.ofString ""))) (lCons (eTup (lCons (eC (.int 0)) lNil)) (lCons (eTup (lCons (eTup (lCons (eC (.int 0)) lNil)) (lCons (eC (.int 0)) lNil))) (lCons (eTup (lCons (eC (.str (Str.ofString "0"))) lNil)) (lCons (eTup (lCons (eTup (lCons (eTup (lCons (eC (.int 0)) lNil)) lNil)) lNil)) (lCons (eC (.str (Str.ofString "(0)"))) (lCons (eTup (lCons (eC .non) lNil)) lNil)))))))))))))
  (sRet (eOp oIx (eVar 6) (eCall (argn 2 c__law_take) (lCons (eVar 0) (lCons (eC (.int 11)) lNil)))))))))))))))
noncomputable def c__law_spoilt : List D → AH → ER := fsem 7 m__law_spoilt
noncomputable def th__law_refused_1_InvalidCycles : List (Str × D) → SM := (fun fs => (sRet (eAnd (eC (.bl true)) (eCall (argn 2 (noX c__law_alike)) (lCons (eFld "value" fs) (lCons (eVar 0) lNil))))))
noncomputable def th__law_refused_1 : Str → List (Str × D) → SM := (fun c fs => (if c = "InvalidCycles" then th__law_refused_1_InvalidCycles fs else sStuck))
noncomputable def m__law_refused : SM := (sSeq (sTry (fun c => ([("InvalidCycles", true)] : List (Str × Bool)).lookup c) 2 (sExpr (eCall (argn 2 c_from_cycles) (lCons (eVar 0) (lCons (eVar 1) lNil)))) th__law_refused_1)
  (sRet (eC (.bl false))))
noncomputable def c__law_refused : List D → AH → ER := fsem 3 m__law_refused
noncomputable def lc_law_1 : EM := (eLc (iVal (eVar 3)) (gVar 6) (eC (.bl true)) (eOp oIx (eVar 4) (eVar 6)) [6])
noncomputable def lb_law_1 : SM := (sSet 7 (eAnd (eVar 7) (eCall (argn 2 c__law_refused) (lCons (eCall (argn 3 c__law_spoilt) (lCons (eVar 1) (lCons (eVar 8) (lCons (eVar 2) lNil)))) (lCons (eVar 2) lNil)))))
noncomputable def m_law : SM := (sSeq (sSet 1 (eCall (argn 1 c__law_bag) (lCons (eVar 0) lNil)))
  (sSeq (sSet 2 (eCall (argn 1 c__law_size) (lCons (eVar 1) lNil)))
  (sSeq (sSet 3 (eCall (argn 2 c__law_perm) (lCons (eVar 1) (lCons (eVar 2) lNil))))
  (sSeq (sSet 4 (eCall (argn 2 c__law_perm) (lCons (eVar 1) (lCons (eVar 2) lNil))))
  (sSeq (sSet 5 (eCall cTuple (lCons lc_law_1 lNil)))
  (sSeq (sSet 7 (eAnd (eCall (argn 1 c__law_described) (lCons (eVar 3) lNil)) (eAnd (eCall (argn 1 c__law_described) (lCons (eVar 4) lNil)) (eCall (argn 1 c__law_described) (lCons (eVar 5) lNil)))))
  (sSeq (sSet 7 (eAnd (eVar 7) (eCall (argn 2 c__law_alike) (lCons (eCallK 0 1 [0] c_sign lNil (lCons (eVar 5) lNil)) (lCons (eOp oMulA (eCall (argn 1 c__law_parity) (lCons (eVar 3) lNil)) (eCall (argn 1 c__law_parity) (lCons (eVar 4) lNil))) lNil)))))
  (sSeq (sSet 8 (eCall (argn 2 c__law_turned) (lCons (eVar 1) (lCons (eVar 3) lNil))))
  (sSeq (sSet 7 (eAnd (eVar 7) (eCall (argn 2 c__law_alike) (lCons (eCall (argn 2 c_from_cycles) (lCons (eCall (argn 1 c__law_plain) (lCons (eVar 8) lNil)) (lCons (eVar 2) lNil))) (lCons (eVar 3) lNil)))))
  (sSeq (sSet 8 (eCall (argn 2 c__law_turned) (lCons (eVar 1) (lCons (eVar 5) lNil))))
  (sSeq (sSet 7 (eAnd (eVar 7) (eCall (argn 2 c__law_alike) (lCons (eCallK 0 2 [0, 1] c_from_cycles lNil (lCons (eCall (argn 1 c__law_plain) (lCons (eVar 8) lNil)) (lCons (eVar 2) lNil))) (lCons (eVar 5) lNil)))))
  (sSeq (sFor (iRange1 (lCons (eC (.int 3)) lNil)) (gVar 9) lb_law_1)
  (sRet (eVar 7))))))))))))))
noncomputable def c_law : List D → AH → ER := fsem 10 m_law
end Law

set_option maxHeartbeats 4000000
/-! printed by mk.py: the walk of each def -/
namespace Law
open PySem PySem.Spec PyProof.Rows L2 Rf
abbrev P0 : Program := PySem.Challenge.rw_tumbler_k01_cycles_and_signs.prog
def topS (i : Nat) : Stmt := PySem.Challenge.pw_tumbler_k01_cycles_and_signs.main.body.getD i (.Pass ⟨0, 0, 0, 0⟩)
abbrev s_is_whole : Stmt := topS 5
abbrev N_is_whole : List Str := ["value"]
theorem sc_is_whole : FnScope N_is_whole ["value"] (defScope s_is_whole) := ⟨rfl, rfl, rfl, by decide +kernel, rfl, by decide +kernel, by decide +kernel⟩
abbrev s_is_index : Stmt := topS 6
abbrev N_is_index : List Str := ["value", "limit"]
theorem sc_is_index : FnScope N_is_index ["value", "limit"] (defScope s_is_index) := ⟨rfl, rfl, rfl, by decide +kernel, rfl, by decide +kernel, by decide +kernel⟩
abbrev s_identity : Stmt := topS 8
abbrev N_identity : List Str := ["points"]
theorem sc_identity : FnScope N_identity ["points"] (defScope s_identity) := ⟨rfl, rfl, rfl, by decide +kernel, rfl, by decide +kernel, by decide +kernel⟩
abbrev s_cycle_at : Stmt := topS 9
abbrev N_cycle_at : List Str := ["perm", "point", "cycle"]
theorem sc_cycle_at : FnScope N_cycle_at ["perm", "point"] (defScope s_cycle_at) := ⟨rfl, rfl, rfl, by decide +kernel, rfl, by decide +kernel, by decide +kernel⟩
abbrev s_cycles_of : Stmt := topS 11
abbrev N_cycles_of : List Str := ["perm", "fixed", "cycles", "seen", "_", "start", "cycle", "point"]
theorem sc_cycles_of : FnScope N_cycles_of ["perm", "fixed"] (defScope s_cycles_of) := ⟨rfl, rfl, rfl, by decide +kernel, rfl, by decide +kernel, by decide +kernel⟩
abbrev s_shape_of : Stmt := topS 12
abbrev N_shape_of : List Str := ["perm", "cycle"]
theorem sc_shape_of : FnScope N_shape_of ["perm"] (defScope s_shape_of) := ⟨rfl, rfl, rfl, by decide +kernel, rfl, by decide +kernel, by decide +kernel⟩
abbrev s_period : Stmt := topS 13
abbrev N_period : List Str := ["perm", "least", "cycle"]
theorem sc_period : FnScope N_period ["perm"] (defScope s_period) := ⟨rfl, rfl, rfl, by decide +kernel, rfl, by decide +kernel, by decide +kernel⟩
abbrev s_sign : Stmt := topS 14
abbrev N_sign : List Str := ["perm", "even", "cycle"]
theorem sc_sign : FnScope N_sign ["perm"] (defScope s_sign) := ⟨rfl, rfl, rfl, by decide +kernel, rfl, by decide +kernel, by decide +kernel⟩
abbrev s__are_cycles : Stmt := topS 15
abbrev N__are_cycles : List Str := ["value", "points", "taken", "_", "cycle", "point"]
theorem sc__are_cycles : FnScope N__are_cycles ["value", "points"] (defScope s__are_cycles) := ⟨rfl, rfl, rfl, by decide +kernel, rfl, by decide +kernel, by decide +kernel⟩
abbrev s_from_cycles : Stmt := topS 16
abbrev N_from_cycles : List Str := ["cycles", "points", "images", "cycle", "at", "point"]
theorem sc_from_cycles : FnScope N_from_cycles ["cycles", "points"] (defScope s_from_cycles) := ⟨rfl, rfl, rfl, by decide +kernel, rfl, by decide +kernel, by decide +kernel⟩
abbrev s__law_bag : Stmt := topS 18
abbrev N__law_bag : List Str := ["script", "room", "k", "cells", "cell", "great"]
theorem sc__law_bag : FnScope N__law_bag ["script"] (defScope s__law_bag) := ⟨rfl, rfl, rfl, by decide +kernel, rfl, by decide +kernel, by decide +kernel⟩
abbrev s__law_take : Stmt := topS 19
abbrev N__law_take : List Str := ["bag", "many", "drawn", "cells", "cell", "mixed"]
theorem sc__law_take : FnScope N__law_take ["bag", "many"] (defScope s__law_take) := ⟨rfl, rfl, rfl, by decide +kernel, rfl, by decide +kernel, by decide +kernel⟩
abbrev s__law_alike : Stmt := topS 20
abbrev N__law_alike : List Str := ["told", "due", "k"]
theorem sc__law_alike : FnScope N__law_alike ["told", "due"] (defScope s__law_alike) := ⟨rfl, rfl, rfl, by decide +kernel, rfl, by decide +kernel, by decide +kernel⟩
abbrev s__law_size : Stmt := topS 21
abbrev N__law_size : List Str := ["bag", "choice"]
theorem sc__law_size : FnScope N__law_size ["bag"] (defScope s__law_size) := ⟨rfl, rfl, rfl, by decide +kernel, rfl, by decide +kernel, by decide +kernel⟩
abbrev s__law_perm : Stmt := topS 22
abbrev N__law_perm : List Str := ["bag", "size", "choice", "pool", "turn", "k", "spot", "row"]
theorem sc__law_perm : FnScope N__law_perm ["bag", "size"] (defScope s__law_perm) := ⟨rfl, rfl, rfl, by decide +kernel, rfl, by decide +kernel, by decide +kernel⟩
abbrev s__law_laps : Stmt := topS 23
abbrev N__law_laps : List Str := ["row", "laps", "seen", "start", "lap", "spot", "k"]
theorem sc__law_laps : FnScope N__law_laps ["row"] (defScope s__law_laps) := ⟨rfl, rfl, rfl, by decide +kernel, rfl, by decide +kernel, by decide +kernel⟩
abbrev s__law_parity : Stmt := topS 24
abbrev N__law_parity : List Str := ["row", "evens", "lap"]
theorem sc__law_parity : FnScope N__law_parity ["row"] (defScope s__law_parity) := ⟨rfl, rfl, rfl, by decide +kernel, rfl, by decide +kernel, by decide +kernel⟩
abbrev s__law_period : Stmt := topS 25
abbrev N__law_period : List Str := ["row", "due", "lap", "step", "k"]
theorem sc__law_period : FnScope N__law_period ["row"] (defScope s__law_period) := ⟨rfl, rfl, rfl, by decide +kernel, rfl, by decide +kernel, by decide +kernel⟩
abbrev s__law_plain : Stmt := topS 26
abbrev N__law_plain : List Str := ["rows", "row"]
theorem sc__law_plain : FnScope N__law_plain ["rows"] (defScope s__law_plain) := ⟨rfl, rfl, rfl, by decide +kernel, rfl, by decide +kernel, by decide +kernel⟩
abbrev s__law_described : Stmt := topS 27
abbrev N__law_described : List Str := ["row", "laps", "longer", "lap", "fine", "due"]
theorem sc__law_described : FnScope N__law_described ["row"] (defScope s__law_described) := ⟨rfl, rfl, rfl, by decide +kernel, rfl, by decide +kernel, by decide +kernel⟩
abbrev s__law_turned : Stmt := topS 28
abbrev N__law_turned : List Str := ["bag", "row", "pool", "lap", "turn", "rows", "k"]
theorem sc__law_turned : FnScope N__law_turned ["bag", "row"] (defScope s__law_turned) := ⟨rfl, rfl, rfl, by decide +kernel, rfl, by decide +kernel, by decide +kernel⟩
abbrev s__law_put : Stmt := topS 29
abbrev N__law_put : List Str := ["bag", "rows", "thing", "spot", "lap", "turn"]
theorem sc__law_put : FnScope N__law_put ["bag", "rows", "thing"] (defScope s__law_put) := ⟨rfl, rfl, rfl, by decide +kernel, rfl, by decide +kernel, by decide +kernel⟩
abbrev s__law_without : Stmt := topS 30
abbrev N__law_without : List Str := ["rows", "number", "kept", "lap", "rest", "spot"]
theorem sc__law_without : FnScope N__law_without ["rows", "number"] (defScope s__law_without) := ⟨rfl, rfl, rfl, by decide +kernel, rfl, by decide +kernel, by decide +kernel⟩
abbrev s__law_spoilt : Stmt := topS 31
abbrev N__law_spoilt : List Str := ["bag", "rows", "size", "choice", "spot", "number", "odd"]
theorem sc__law_spoilt : FnScope N__law_spoilt ["bag", "rows", "size"] (defScope s__law_spoilt) := ⟨rfl, rfl, rfl, by decide +kernel, rfl, by decide +kernel, by decide +kernel⟩
abbrev s__law_refused : Stmt := topS 32
abbrev N__law_refused : List Str := ["odd", "size", "error"]
theorem sc__law_refused : FnScope N__law_refused ["odd", "size"] (defScope s__law_refused) := ⟨rfl, rfl, rfl, by decide +kernel, rfl, by decide +kernel, by decide +kernel⟩
abbrev s_law : Stmt := topS 33
abbrev N_law : List Str := ["script", "bag", "size", "one", "two", "both", "spot", "fine", "rows", "k"]
theorem sc_law : FnScope N_law ["script"] (defScope s_law) := ⟨rfl, rfl, rfl, by decide +kernel, rfl, by decide +kernel, by decide +kernel⟩
structure Txt (K : PySem.W.Frag) (mg : Str → Option Value) where
  f_is_whole : Addr
  fd_is_whole : FuncData
  d_is_whole : DA K mg "is_whole" s_is_whole ["value"] f_is_whole fd_is_whole
  f_is_index : Addr
  fd_is_index : FuncData
  d_is_index : DA K mg "is_index" s_is_index ["value", "limit"] f_is_index fd_is_index
  f_identity : Addr
  fd_identity : FuncData
  d_identity : DA K mg "identity" s_identity ["points"] f_identity fd_identity
  f_cycle_at : Addr
  fd_cycle_at : FuncData
  d_cycle_at : DA K mg "cycle_at" s_cycle_at ["perm", "point"] f_cycle_at fd_cycle_at
  f_cycles_of : Addr
  fd_cycles_of : FuncData
  d_cycles_of : DB K mg "cycles_of" s_cycles_of f_cycles_of fd_cycles_of
  f_shape_of : Addr
  fd_shape_of : FuncData
  d_shape_of : DA K mg "shape_of" s_shape_of ["perm"] f_shape_of fd_shape_of
  f_period : Addr
  fd_period : FuncData
  d_period : DA K mg "period" s_period ["perm"] f_period fd_period
  f_sign : Addr
  fd_sign : FuncData
  d_sign : DA K mg "sign" s_sign ["perm"] f_sign fd_sign
  f__are_cycles : Addr
  fd__are_cycles : FuncData
  d__are_cycles : DA K mg "_are_cycles" s__are_cycles ["value", "points"] f__are_cycles fd__are_cycles
  f_from_cycles : Addr
  fd_from_cycles : FuncData
  d_from_cycles : DA K mg "from_cycles" s_from_cycles ["cycles", "points"] f_from_cycles fd_from_cycles
  f__law_bag : Addr
  fd__law_bag : FuncData
  d__law_bag : DA K mg "_law_bag" s__law_bag ["script"] f__law_bag fd__law_bag
  f__law_take : Addr
  fd__law_take : FuncData
  d__law_take : DA K mg "_law_take" s__law_take ["bag", "many"] f__law_take fd__law_take
  f__law_alike : Addr
  fd__law_alike : FuncData
  d__law_alike : DA K mg "_law_alike" s__law_alike ["told", "due"] f__law_alike fd__law_alike
  f__law_size : Addr
  fd__law_size : FuncData
  d__law_size : DA K mg "_law_size" s__law_size ["bag"] f__law_size fd__law_size
  f__law_perm : Addr
  fd__law_perm : FuncData
  d__law_perm : DA K mg "_law_perm" s__law_perm ["bag", "size"] f__law_perm fd__law_perm
  f__law_laps : Addr
  fd__law_laps : FuncData
  d__law_laps : DA K mg "_law_laps" s__law_laps ["row"] f__law_laps fd__law_laps
  f__law_parity : Addr
  fd__law_parity : FuncData
  d__law_parity : DA K mg "_law_parity" s__law_parity ["row"] f__law_parity fd__law_parity
  f__law_period : Addr
  fd__law_period : FuncData
  d__law_period : DA K mg "_law_period" s__law_period ["row"] f__law_period fd__law_period
  f__law_plain : Addr
  fd__law_plain : FuncData
  d__law_plain : DA K mg "_law_plain" s__law_plain ["rows"] f__law_plain fd__law_plain
  f__law_described : Addr
  fd__law_described : FuncData
  d__law_described : DA K mg "_law_described" s__law_described ["row"] f__law_described fd__law_described
  f__law_turned : Addr
  fd__law_turned : FuncData
  d__law_turned : DA K mg "_law_turned" s__law_turned ["bag", "row"] f__law_turned fd__law_turned
  f__law_put : Addr
  fd__law_put : FuncData
  d__law_put : DA K mg "_law_put" s__law_put ["bag", "rows", "thing"] f__law_put fd__law_put
  f__law_without : Addr
  fd__law_without : FuncData
  d__law_without : DA K mg "_law_without" s__law_without ["rows", "number"] f__law_without fd__law_without
  f__law_spoilt : Addr
  fd__law_spoilt : FuncData
  d__law_spoilt : DA K mg "_law_spoilt" s__law_spoilt ["bag", "rows", "size"] f__law_spoilt fd__law_spoilt
  f__law_refused : Addr
  fd__law_refused : FuncData
  d__law_refused : DA K mg "_law_refused" s__law_refused ["odd", "size"] f__law_refused fd__law_refused
  f_law : Addr
  fd_law : FuncData
  d_law : DA K mg "law" s_law ["script"] f_law fd_law
  b_int : mg "int" = none
  b_isinstance : mg "isinstance" = none
  b_bool : mg "bool" = none
  b_tuple : mg "tuple" = none
  b_range : mg "range" = none
  b_len : mg "len" = none
  b_sorted : mg "sorted" = none
  b_list : mg "list" = none
  b_enumerate : mg "enumerate" = none
  b_all : mg "all" = none
  b_str : mg "str" = none
  b_min : mg "min" = none
  m_lcm : mg "lcm" = some (.builtin "math.lcm")
  x_InvalidCycles : Addr
  xi_InvalidCycles : Addr
  xd_InvalidCycles : FuncData
  e_InvalidCycles : ErrC P0 K mg "InvalidCycles" x_InvalidCycles xi_InvalidCycles xd_InvalidCycles "self" "value"
  y_TumblerError : Addr
  my_TumblerError : mg "TumblerError" = some (.ref y_TumblerError)
  y_InvalidCycles : Addr
  my_InvalidCycles : mg "InvalidCycles" = some (.ref y_InvalidCycles)
  ex_InvalidCycles_TumblerError : PySem.W.exmOne K (.ref x_InvalidCycles) (.ref y_TumblerError) = some true
  ki_InvalidCycles_InvalidCycles : PySem.W.kitOne K (.ref x_InvalidCycles) (.ref y_InvalidCycles) = some true
  kb_0 : KBn K fd_cycles_of ["perm", "fixed"] 1 ["fixed"] (permK [0]) (permK [0])
  kb_1 : KBn K fd_cycles_of ["perm", "fixed"] 1 [] (fun us ws => permK [] us ws ++ ([(.bl false)] : List Cn).map Cn.u) (fun us ws => permK [] us ws ++ ([(.bl false)] : List Cn).map Cn.v)
  kb_2 : KBn K fd_cycles_of ["perm", "fixed"] 0 ["fixed", "perm"] (permK [1, 0]) (permK [1, 0])
  kb_3 : KBn K fd_shape_of ["perm"] 0 ["perm"] (permK [0]) (permK [0])
  kb_4 : KBn K fd_period ["perm"] 0 ["perm"] (permK [0]) (permK [0])
  kb_5 : KBn K fd_sign ["perm"] 0 ["perm"] (permK [0]) (permK [0])
  kb_6 : KBn K fd_from_cycles ["cycles", "points"] 0 ["cycles", "points"] (permK [0, 1]) (permK [0, 1])
section
variable {w : World} {K : PySem.W.Frag} {mg : Str → Option Value} {base : Heap}
theorem w_is_whole (T : Txt K mg) : FnOk P0 w K mg base (L2N.CX P0 w) 1 T.f_is_whole T.fd_is_whole ["value"] (spF K mg 1 c_is_whole) := by
  refine fn_ok (n := 1) (m := m_is_whole) T.d_is_whole.fn sc_is_whole rfl rfl fun cdv A outer s H E hr => ?_
  have tk : L2N.Takes (cxOf (L2N.CX P0 w) P0 w K mg base N_is_whole "is_whole" (defScope s_is_whole) T.f_is_whole cdv A outer s H E) (fun cls d _ H => E cls d H) := L2N.takes_of rfl rfl rfl rfl
  have po := passes_of (X := cxOf (L2N.CX P0 w) P0 w K mg base N_is_whole "is_whole" (defScope s_is_whole) T.f_is_whole cdv A outer s H E) rfl
  exact (mb_one (ms_ret (me_and (me_callB call_isi cs_isi T.b_isinstance (ma_cons (me_var 0) (ma_cons (me_ty T.b_int) ma_nil))) (me_one (me_not (me_callB call_isi cs_isi T.b_isinstance (ma_cons (me_var 0) (ma_cons (me_ty T.b_bool) ma_nil))))))))
theorem w_is_index (T : Txt K mg) : FnOk P0 w K mg base (L2N.CX P0 w) 2 T.f_is_index T.fd_is_index ["value", "limit"] (spF K mg 2 c_is_index) := by
  refine fn_ok (n := 2) (m := m_is_index) T.d_is_index.fn sc_is_index rfl rfl fun cdv A outer s H E hr => ?_
  have tk : L2N.Takes (cxOf (L2N.CX P0 w) P0 w K mg base N_is_index "is_index" (defScope s_is_index) T.f_is_index cdv A outer s H E) (fun cls d _ H => E cls d H) := L2N.takes_of rfl rfl rfl rfl
  have po := passes_of (X := cxOf (L2N.CX P0 w) P0 w K mg base N_is_index "is_index" (defScope s_is_index) T.f_is_index cdv A outer s H E) rfl
  exact (mb_one (ms_ret (me_and (me_call (w_is_whole T) (hr.mono (by decide)) T.d_is_whole.mgf T.d_is_whole.fn.kp T.d_is_whole.bd tk (ma_cons (me_var 0) ma_nil)) (me_one (me_chain op_leAll os_le (op_ltAll hr.units0) os_lt me_int (me_var 0) (me_var 1))))))
theorem w_identity (T : Txt K mg) : FnOk P0 w K mg base (L2N.CX P0 w) 1 T.f_identity T.fd_identity ["points"] (spF K mg 1 c_identity) := by
  refine fn_ok (n := 1) (m := m_identity) T.d_identity.fn sc_identity rfl rfl fun cdv A outer s H E hr => ?_
  have tk : L2N.Takes (cxOf (L2N.CX P0 w) P0 w K mg base N_identity "identity" (defScope s_identity) T.f_identity cdv A outer s H E) (fun cls d _ H => E cls d H) := L2N.takes_of rfl rfl rfl rfl
  have po := passes_of (X := cxOf (L2N.CX P0 w) P0 w K mg base N_identity "identity" (defScope s_identity) T.f_identity cdv A outer s H E) rfl
  exact (mb_one (ms_ret (me_tupRg1 rfl T.b_tuple T.b_range (me_var 0))))
theorem w_cycle_at (T : Txt K mg) : FnOk P0 w K mg base (L2N.CX P0 w) 1 T.f_cycle_at T.fd_cycle_at ["perm", "point"] (spF K mg 2 c_cycle_at) := by
  refine fn_ok (n := 3) (m := m_cycle_at) T.d_cycle_at.fn sc_cycle_at rfl rfl fun cdv A outer s H E hr => ?_
  have tk : L2N.Takes (cxOf (L2N.CX P0 w) P0 w K mg base N_cycle_at "cycle_at" (defScope s_cycle_at) T.f_cycle_at cdv A outer s H E) (fun cls d _ H => E cls d H) := L2N.takes_of rfl rfl rfl rfl
  have po := passes_of (X := cxOf (L2N.CX P0 w) P0 w K mg base N_cycle_at "cycle_at" (defScope s_cycle_at) T.f_cycle_at cdv A outer s H E) rfl
  exact (mb_cons (ms_set (i := 2) sc_cycle_at.nd rfl (.inl rfl) (me_lst (ma_cons (me_var 1) ma_nil)))
    (mb_cons (ms_while po (mt_cmp (op_neD hr.units) os_ne (me_ix ix_seq os_ix (me_var 0) (me_ix ix_seq os_ix (me_var 2) (me_un un_neg us_neg me_int))) (me_var 1) (nomark _))
      (mb_one (ms_expr (me_meth PySem.F.plainAttrs_list PySem.F.slot_list_append PySem.F.type_list_append mt_append ms_append (me_var 2) (ma_cons (me_ix ix_seq os_ix (me_var 0) (me_ix ix_seq os_ix (me_var 2) (me_un un_neg us_neg me_int))) ma_nil)))))
    (mb_one (ms_ret (me_var 2)))))
theorem w_cycles_of (T : Txt K mg) : FnOk P0 w K mg base (L2N.CX P0 w) 2 T.f_cycles_of T.fd_cycles_of ["perm", "fixed"] (spF K mg 2 c_cycles_of) := by
  refine fn_ok (n := 8) (m := m_cycles_of) T.d_cycles_of.fn sc_cycles_of rfl rfl fun cdv A outer s H E hr => ?_
  have tk : L2N.Takes (cxOf (L2N.CX P0 w) P0 w K mg base N_cycles_of "cycles_of" (defScope s_cycles_of) T.f_cycles_of cdv A outer s H E) (fun cls d _ H => E cls d H) := L2N.takes_of rfl rfl rfl rfl
  have po := passes_of (X := cxOf (L2N.CX P0 w) P0 w K mg base N_cycles_of "cycles_of" (defScope s_cycles_of) T.f_cycles_of cdv A outer s H E) rfl
  exact (mb_cons (ms_set (i := 2) sc_cycles_of.nd rfl (.inl rfl) (me_lst ma_nil))
    (mb_cons (ms_setLc (i := 3) rfl sc_cycles_of.nd rfl rfl (sw_true rfl rfl rfl (by decide +kernel)) (mi_val (me_var 0)) (blkOk_by (own := [("_", 4)]) (by show blkC N_cycles_of (defScope s_cycles_of) _ _ = true; decide +kernel)) (fun _ _ _ _ _ => (mgc_var sc_cycles_of.nd rfl (.inl rfl) (by decide))) (fun _ _ _ _ _ => mts_nil) (fun _ _ _ _ _ => me_bl))
    (mb_cons (ms_for po rfl (mi_range1 T.b_range (ma_cons (me_callB cl_len cs_lenAll T.b_len (ma_cons (me_var 0) ma_nil)) ma_nil)) (mg_var sc_cycles_of.nd rfl (.inl rfl))
      (mb_one (ms_if (mt_not (mt_truth ts_truth (me_ix ix_seq os_ix (me_var 3) (me_var 5))))
      (mb_cons (ms_set (i := 6) sc_cycles_of.nd rfl (.inl rfl) (me_call (w_cycle_at T) (hr.mono (by decide)) T.d_cycle_at.mgf T.d_cycle_at.fn.kp T.d_cycle_at.bd tk (ma_cons (me_var 0) (ma_cons (me_var 5) ma_nil))))
    (mb_cons (ms_for po rfl (mi_val (me_var 6)) (mg_var sc_cycles_of.nd rfl (.inl rfl))
      (mb_one (ms_asg me_bl (mg_sub set_list ss_list (me_var 3) (me_var 7)))))
    (mb_one (ms_if (MW.mt (mw_or (mt_truth ts_truth (me_var 1)) (mw_or1 (mt_cmp op_gt os_gt (me_callB cl_len cs_lenAll T.b_len (ma_cons (me_var 6) ma_nil)) me_int (nomark _)))))
      (mb_one (ms_expr (me_meth PySem.F.plainAttrs_list PySem.F.slot_list_append PySem.F.type_list_append mt_append ms_append (me_var 2) (ma_cons (me_callTy call_tuple_of cs_tuple T.b_tuple (ma_cons (me_var 6) ma_nil)) ma_nil))))
      mb_nil))))
      mb_nil)))
    (mb_one (ms_ret (me_callTy call_tuple_of cs_tuple T.b_tuple (ma_cons (me_var 2) ma_nil)))))))
theorem w_shape_of (T : Txt K mg) : FnOk P0 w K mg base (L2N.CX P0 w) 3 T.f_shape_of T.fd_shape_of ["perm"] (spF K mg 1 c_shape_of) := by
  refine fn_ok (n := 2) (m := m_shape_of) T.d_shape_of.fn sc_shape_of rfl rfl fun cdv A outer s H E hr => ?_
  have tk : L2N.Takes (cxOf (L2N.CX P0 w) P0 w K mg base N_shape_of "shape_of" (defScope s_shape_of) T.f_shape_of cdv A outer s H E) (fun cls d _ H => E cls d H) := L2N.takes_of rfl rfl rfl rfl
  have po := passes_of (X := cxOf (L2N.CX P0 w) P0 w K mg base N_shape_of "shape_of" (defScope s_shape_of) T.f_shape_of cdv A outer s H E) rfl
  exact (mb_one (ms_ret (me_callTy call_tuple_of cs_tuple T.b_tuple (ma_cons (me_callBK cr_sortedRv cs_sortedR T.b_sorted (ma_cons (me_lc rfl sc_shape_of.nd (mi_val (me_callK (pl := 2) (w_cycles_of T) (hr.mono (by decide)) T.d_cycles_of.mgf T.d_cycles_of.fn.kp T.kb_0 tk (ma_cons (me_var 0) ma_nil) (mk_cons me_bl mk_nil) (by exact fun us ws h1 h2 => match us, ws, h1, h2 with | [_], [_], _, _ => rfl))) (blkOk_by (own := [("cycle", 1)]) (by show blkC N_shape_of (defScope s_shape_of) _ _ = true; decide +kernel)) (fun _ _ _ _ _ => (mgc_var sc_shape_of.nd rfl (.inl rfl) (by decide))) (fun _ _ _ _ _ => mts_nil) (fun _ _ _ _ _ => (me_callB cl_len cs_lenAll T.b_len (ma_cons (me_var 1) ma_nil)))) ma_nil) (mk_cons me_bl mk_nil)) ma_nil))))
theorem w_period (T : Txt K mg) : FnOk P0 w K mg base (L2N.CX P0 w) 3 T.f_period T.fd_period ["perm"] (spF K mg 1 c_period) := by
  refine fn_ok (n := 3) (m := m_period) T.d_period.fn sc_period rfl rfl fun cdv A outer s H E hr => ?_
  have tk : L2N.Takes (cxOf (L2N.CX P0 w) P0 w K mg base N_period "period" (defScope s_period) T.f_period cdv A outer s H E) (fun cls d _ H => E cls d H) := L2N.takes_of rfl rfl rfl rfl
  have po := passes_of (X := cxOf (L2N.CX P0 w) P0 w K mg base N_period "period" (defScope s_period) T.f_period cdv A outer s H E) rfl
  exact (mb_cons (ms_set (i := 1) sc_period.nd rfl (.inl rfl) me_int)
    (mb_cons (ms_for po rfl (mi_val (me_callKd (pl := 2) (cs := [(.bl false)]) (w_cycles_of T) (hr.mono (by decide)) T.d_cycles_of.mgf T.d_cycles_of.fn.kp T.kb_1 tk (ma_cons (me_var 0) ma_nil) mk_nil (by exact fun us ws h1 h2 => match us, ws, h1, h2 with | [_], [], _, _ => rfl))) (mg_var sc_period.nd rfl (.inl rfl))
      (mb_one (ms_set (i := 1) sc_period.nd rfl (.inl rfl) (me_callBfun cr_lcm cs_lcm T.m_lcm (ma_cons (me_var 1) (ma_cons (me_callB cl_len cs_lenAll T.b_len (ma_cons (me_var 2) ma_nil)) ma_nil))))))
    (mb_one (ms_ret (me_var 1)))))
theorem w_sign (T : Txt K mg) : FnOk P0 w K mg base (L2N.CX P0 w) 3 T.f_sign T.fd_sign ["perm"] (spF K mg 1 c_sign) := by
  refine fn_ok (n := 3) (m := m_sign) T.d_sign.fn sc_sign rfl rfl fun cdv A outer s H E hr => ?_
  have tk : L2N.Takes (cxOf (L2N.CX P0 w) P0 w K mg base N_sign "sign" (defScope s_sign) T.f_sign cdv A outer s H E) (fun cls d _ H => E cls d H) := L2N.takes_of rfl rfl rfl rfl
  have po := passes_of (X := cxOf (L2N.CX P0 w) P0 w K mg base N_sign "sign" (defScope s_sign) T.f_sign cdv A outer s H E) rfl
  exact (mb_cons (ms_set (i := 1) sc_sign.nd rfl (.inl rfl) (me_callB cl_len cs_lenAll T.b_len (ma_cons (me_lc rfl sc_sign.nd (mi_val (me_callKd (pl := 2) (cs := [(.bl false)]) (w_cycles_of T) (hr.mono (by decide)) T.d_cycles_of.mgf T.d_cycles_of.fn.kp T.kb_1 tk (ma_cons (me_var 0) ma_nil) mk_nil (by exact fun us ws h1 h2 => match us, ws, h1, h2 with | [_], [], _, _ => rfl))) (blkOk_by (own := [("cycle", 2)]) (by show blkC N_sign (defScope s_sign) _ _ = true; decide +kernel)) (fun _ _ _ _ _ => (mgc_var sc_sign.nd rfl (.inl rfl) (by decide))) (fun _ _ _ _ _ => (mts_one (mt_cmp (op_eqD hr.units) os_eq (me_op op_mod os_mod (me_callB cl_len cs_lenAll T.b_len (ma_cons (me_var 2) ma_nil)) me_int) me_int (nomark _)))) (fun _ _ _ _ _ => (me_var 2))) ma_nil)))
    (mb_one (ms_ret (me_if (mt_cmp (op_eqD hr.units) os_eq (me_op op_mod os_mod (me_var 1) me_int) me_int (nomark _)) me_int (me_un un_neg us_neg me_int)))))
theorem w__are_cycles (T : Txt K mg) : FnOk P0 w K mg base (L2N.CX P0 w) 3 T.f__are_cycles T.fd__are_cycles ["value", "points"] (spF K mg 2 c__are_cycles) := by
  refine fn_ok (n := 6) (m := m__are_cycles) T.d__are_cycles.fn sc__are_cycles rfl rfl fun cdv A outer s H E hr => ?_
  have tk : L2N.Takes (cxOf (L2N.CX P0 w) P0 w K mg base N__are_cycles "_are_cycles" (defScope s__are_cycles) T.f__are_cycles cdv A outer s H E) (fun cls d _ H => E cls d H) := L2N.takes_of rfl rfl rfl rfl
  have po := passes_of (X := cxOf (L2N.CX P0 w) P0 w K mg base N__are_cycles "_are_cycles" (defScope s__are_cycles) T.f__are_cycles cdv A outer s H E) rfl
  exact (mb_cons (ms_if (mt_not (mt_truth ts_truth (me_callB call_isi cs_isi T.b_isinstance (ma_cons (me_var 0) (ma_cons (me_ty T.b_tuple) ma_nil)))))
      (mb_one (ms_ret me_bl))
      mb_nil)
    (mb_cons (ms_setLc (i := 2) rfl sc__are_cycles.nd rfl rfl (sw_true rfl rfl rfl (by decide +kernel)) (mi_range1 T.b_range (ma_cons (me_var 1) ma_nil)) (blkOk_by (own := [("_", 3)]) (by show blkC N__are_cycles (defScope s__are_cycles) _ _ = true; decide +kernel)) (fun _ _ _ _ _ => (mgc_var sc__are_cycles.nd rfl (.inl rfl) (by decide))) (fun _ _ _ _ _ => mts_nil) (fun _ _ _ _ _ => me_bl))
    (mb_cons (ms_for po rfl (mi_val (me_var 0)) (mg_var sc__are_cycles.nd rfl (.inl rfl))
      (mb_cons (ms_if (MW.mt (mw_or (mt_not (mt_truth ts_truth (me_callB call_isi cs_isi T.b_isinstance (ma_cons (me_var 4) (ma_cons (me_ty T.b_tuple) ma_nil))))) (mw_or1 (mt_cmp (op_eqD hr.units) os_eq (me_callB cl_len cs_lenAll T.b_len (ma_cons (me_var 4) ma_nil)) me_int (nomark _)))))
      (mb_one (ms_ret me_bl))
      mb_nil)
    (mb_one (ms_for po rfl (mi_val (me_var 4)) (mg_var sc__are_cycles.nd rfl (.inl rfl))
      (mb_cons (ms_if (MW.mt (mw_or (mt_not (mt_truth ts_truth (me_call (w_is_index T) (hr.mono (by decide)) T.d_is_index.mgf T.d_is_index.fn.kp T.d_is_index.bd tk (ma_cons (me_var 5) (ma_cons (me_var 1) ma_nil))))) (mw_or1 (mt_truth ts_truth (me_ix ix_seq os_ix (me_var 2) (me_var 5))))))
      (mb_one (ms_ret me_bl))
      mb_nil)
    (mb_one (ms_asg me_bl (mg_sub set_list ss_list (me_var 2) (me_var 5)))))))))
    (mb_one (ms_ret me_bl)))))
theorem w_from_cycles (T : Txt K mg) : FnOk P0 w K mg base (L2N.CX P0 w) 4 T.f_from_cycles T.fd_from_cycles ["cycles", "points"] (spF K mg 2 c_from_cycles) := by
  refine fn_ok (n := 6) (m := m_from_cycles) T.d_from_cycles.fn sc_from_cycles rfl rfl fun cdv A outer s H E hr => ?_
  have tk : L2N.Takes (cxOf (L2N.CX P0 w) P0 w K mg base N_from_cycles "from_cycles" (defScope s_from_cycles) T.f_from_cycles cdv A outer s H E) (fun cls d _ H => E cls d H) := L2N.takes_of rfl rfl rfl rfl
  have po := passes_of (X := cxOf (L2N.CX P0 w) P0 w K mg base N_from_cycles "from_cycles" (defScope s_from_cycles) T.f_from_cycles cdv A outer s H E) rfl
  exact (mb_cons (ms_if (mt_not (mt_truth ts_truth (me_call (w__are_cycles T) (hr.mono (by decide)) T.d__are_cycles.mgf T.d__are_cycles.fn.kp T.d__are_cycles.bd tk (ma_cons (me_var 0) (ma_cons (me_var 1) ma_nil)))))
      (mb_one (ms_raiseE T.e_InvalidCycles rfl tk (hr.mono (by decide)) (ma_cons (me_var 0) ma_nil)))
      mb_nil)
    (mb_cons (ms_set (i := 2) sc_from_cycles.nd rfl (.inl rfl) (me_callTy call_list_of cs_list T.b_list (ma_cons (me_call (w_identity T) (hr.mono (by decide)) T.d_identity.mgf T.d_identity.fn.kp T.d_identity.bd tk (ma_cons (me_var 1) ma_nil)) ma_nil)))
    (mb_cons (ms_for po rfl (mi_val (me_var 0)) (mg_var sc_from_cycles.nd rfl (.inl rfl))
      (mb_one (ms_for po rfl (mi_enum2 T.b_enumerate (me_var 3)) (mg_tup rfl (mgs_cons (mg_var sc_from_cycles.nd rfl (.inl rfl)) (mgs_cons (mg_var sc_from_cycles.nd rfl (.inl rfl)) mgs_nil)))
      (mb_one (ms_asg (me_ix ix_seq os_ix (me_var 3) (me_op op_mod os_mod (me_op op_addAll os_add (me_var 4) me_int) (me_callB cl_len cs_lenAll T.b_len (ma_cons (me_var 3) ma_nil)))) (mg_sub set_list ss_list (me_var 2) (me_var 5)))))))
    (mb_one (ms_ret (me_callTy call_tuple_of cs_tuple T.b_tuple (ma_cons (me_var 2) ma_nil)))))))
theorem w__law_bag (T : Txt K mg) : FnOk P0 w K mg base (L2N.CX P0 w) 1 T.f__law_bag T.fd__law_bag ["script"] (spF K mg 1 c__law_bag) := by
  refine fn_ok (n := 6) (m := m__law_bag) T.d__law_bag.fn sc__law_bag rfl rfl fun cdv A outer s H E hr => ?_
  have tk : L2N.Takes (cxOf (L2N.CX P0 w) P0 w K mg base N__law_bag "_law_bag" (defScope s__law_bag) T.f__law_bag cdv A outer s H E) (fun cls d _ H => E cls d H) := L2N.takes_of rfl rfl rfl rfl
  have po := passes_of (X := cxOf (L2N.CX P0 w) P0 w K mg base N__law_bag "_law_bag" (defScope s__law_bag) T.f__law_bag cdv A outer s H E) rfl
  exact (mb_cons (ms_set (i := 1) sc__law_bag.nd rfl (.inr rfl) (me_op op_powB os_powB me_int me_int))
    (mb_cons (ms_for po rfl (mi_range1 T.b_range (ma_cons me_int ma_nil)) (mg_var sc__law_bag.nd rfl (.inl rfl))
      (mb_one (ms_set (i := 1) sc__law_bag.nd rfl (.inr rfl) (me_op op_mulA os_mulA (me_var 1) (me_var 1)))))
    (mb_cons (ms_setLc (i := 3) rfl sc__law_bag.nd rfl rfl (sw_true rfl rfl rfl (by decide +kernel)) (mi_val (me_slice (me_var 0) mo_none (mo_some me_int))) (blkOk_by (own := [("cell", 4)]) (by show blkC N__law_bag (defScope s__law_bag) _ _ = true; decide +kernel)) (fun _ _ _ _ _ => (mgc_var sc__law_bag.nd rfl (.inl rfl) (by decide))) (fun _ _ _ _ _ => mts_nil) (fun _ _ _ _ _ => (me_callTy call_int1 cs_int T.b_int (ma_cons (me_var 4) ma_nil))))
    (mb_cons (ms_setLc (i := 5) rfl sc__law_bag.nd rfl rfl (sw_true rfl rfl rfl (by decide +kernel)) (mi_val (me_var 3)) (blkOk_by (own := [("cell", 4)]) (by show blkC N__law_bag (defScope s__law_bag) _ _ = true; decide +kernel)) (fun _ _ _ _ _ => (mgc_var sc__law_bag.nd rfl (.inl rfl) (by decide))) (fun _ _ _ _ _ => (mts_one (mt_cmp op_ge os_ge (me_var 4) (me_op op_powB os_powB me_int me_int) (nomark _)))) (fun _ _ _ _ _ => (me_op op_mod os_mod (me_callTy call_int1 cs_int T.b_int (ma_cons (me_var 4) ma_nil)) (me_var 1))))
    (mb_one (ms_ret (me_lst (ma_cons (me_var 5) (ma_cons me_int (ma_cons (me_lc rfl sc__law_bag.nd (mi_val (me_var 3)) (blkOk_by (own := [("cell", 4)]) (by show blkC N__law_bag (defScope s__law_bag) _ _ = true; decide +kernel)) (fun _ _ _ _ _ => (mgc_var sc__law_bag.nd rfl (.inl rfl) (by decide))) (fun _ _ _ _ _ => mts_nil) (fun _ _ _ _ _ => (me_op op_mod os_mod (me_callTy call_int1 cs_int T.b_int (ma_cons (me_var 4) ma_nil)) me_int))) (ma_cons me_int ma_nil)))))))))))
theorem w__law_take (T : Txt K mg) : FnOk P0 w K mg base (L2N.CX P0 w) 1 T.f__law_take T.fd__law_take ["bag", "many"] (spF K mg 2 c__law_take) := by
  refine fn_ok (n := 6) (m := m__law_take) T.d__law_take.fn sc__law_take rfl rfl fun cdv A outer s H E hr => ?_
  have tk : L2N.Takes (cxOf (L2N.CX P0 w) P0 w K mg base N__law_take "_law_take" (defScope s__law_take) T.f__law_take cdv A outer s H E) (fun cls d _ H => E cls d H) := L2N.takes_of rfl rfl rfl rfl
  have po := passes_of (X := cxOf (L2N.CX P0 w) P0 w K mg base N__law_take "_law_take" (defScope s__law_take) T.f__law_take cdv A outer s H E) rfl
  exact (mb_cons (ms_if (MW.mt (mw_and (mt_cmp (op_eqD hr.units) os_eq (me_ix ix_seq os_ix (me_var 0) me_int) me_int (nomark _)) (mw_and1 (mt_truth ts_truth (me_ix ix_seq os_ix (me_var 0) me_int)))))
      (mb_one (ms_asg (me_meth PySem.F.plainAttrs_list PySem.F.slot_list_pop PySem.F.type_list_pop mt_popAt ms_popAt (me_ix ix_seq os_ix (me_var 0) me_int) (ma_cons me_int ma_nil)) (mg_sub set_list ss_list (me_var 0) me_int)))
      mb_nil)
    (mb_cons (ms_if (mt_cmp op_gt os_gt (me_ix ix_seq os_ix (me_var 0) me_int) me_int (nomark _))
      (mb_cons (ms_set (i := 2) sc__law_take.nd rfl (.inl rfl) (me_op op_mod os_mod (me_callTy call_int1 cs_int T.b_int (ma_cons (me_ix ix_seq os_ix (me_var 0) me_int) ma_nil)) (me_var 1)))
    (mb_cons (ms_asg (me_op op_fdivW os_div (me_callTy call_int1 cs_int T.b_int (ma_cons (me_ix ix_seq os_ix (me_var 0) me_int) ma_nil)) (me_var 1)) (mg_sub set_list ss_list (me_var 0) me_int))
    (mb_one (ms_ret (me_var 2)))))
      mb_nil)
    (mb_cons (ms_asg (me_op op_addAll os_add (me_ix ix_seq os_ix (me_var 0) me_int) me_int) (mg_sub set_list ss_list (me_var 0) me_int))
    (mb_cons (ms_set (i := 3) sc__law_take.nd rfl (.inl rfl) (me_ix ix_seq os_ix (me_var 0) me_int))
    (mb_cons (ms_set (i := 4) sc__law_take.nd rfl (.inl rfl) me_int)
    (mb_cons (ms_if (mt_truth ts_truth (me_var 3))
      (mb_one (ms_set (i := 4) sc__law_take.nd rfl (.inl rfl) (me_ix ix_seq os_ix (me_var 3) (me_op op_mod os_mod (me_callTy call_int1 cs_int T.b_int (ma_cons (me_ix ix_seq os_ix (me_var 0) me_int) ma_nil)) (me_callB cl_len cs_lenAll T.b_len (ma_cons (me_var 3) ma_nil))))))
      mb_nil)
    (mb_cons (ms_set (i := 5) sc__law_take.nd rfl (.inl rfl) (me_op op_mod os_mod (me_callTy call_int1 cs_int T.b_int (ma_cons (me_op op_addAll os_add (me_op op_addAll os_add (me_op op_addAll os_add (me_op op_mulA os_mulA (me_var 4) me_int) (me_op op_mulA os_mulA (me_ix ix_seq os_ix (me_var 0) me_int) me_int)) (me_op op_mulA os_mulA (me_callB cl_len cs_lenAll T.b_len (ma_cons (me_var 3) ma_nil)) me_int)) me_int) ma_nil)) me_int))
    (mb_cons (ms_set (i := 5) sc__law_take.nd rfl (.inl rfl) (me_op op_mod os_mod (me_callTy call_int1 cs_int T.b_int (ma_cons (me_op op_addAll os_add (me_op op_addAll os_add (me_op op_mulA os_mulA (me_var 5) (me_var 5)) (me_op op_mulA os_mulA (me_var 5) me_int)) (me_ix ix_seq os_ix (me_var 0) me_int)) ma_nil)) me_int))
    (mb_cons (ms_set (i := 5) sc__law_take.nd rfl (.inl rfl) (me_op op_mod os_mod (me_callTy call_int1 cs_int T.b_int (ma_cons (me_op op_addAll os_add (me_op op_addAll os_add (me_op op_mulA os_mulA (me_var 5) (me_var 5)) (me_op op_mulA os_mulA (me_var 5) me_int)) me_int) ma_nil)) me_int))
    (mb_one (ms_ret (me_op op_mod os_mod (me_op op_fdivW os_div (me_var 5) me_int) (me_var 1)))))))))))))
theorem wr__law_alike (T : Txt K mg) : ∀ j, FnOk P0 w K mg base (L2N.CX P0 w) (j + 1) T.f__law_alike T.fd__law_alike ["told", "due"] (spF K mg 2 (cr__law_alike j))
  | 0 => fnOk_stuck
  | j + 1 => by
    rw [show j + 1 + 1 = j + 1 + 1 by omega]
    refine fn_ok (n := 3) (m := m__law_alike (noX (cr__law_alike j))) T.d__law_alike.fn sc__law_alike rfl rfl fun cdv A outer s H E hr => ?_
    have tk : L2N.Takes (cxOf (L2N.CX P0 w) P0 w K mg base N__law_alike "_law_alike" (defScope s__law_alike) T.f__law_alike cdv A outer s H E) (fun cls d _ H => E cls d H) := L2N.takes_of rfl rfl rfl rfl
    have po := passes_of (X := cxOf (L2N.CX P0 w) P0 w K mg base N__law_alike "_law_alike" (defScope s__law_alike) T.f__law_alike cdv A outer s H E) rfl
    exact (mb_cons (ms_if (mt_truth ts_truth (me_callB call_isi cs_isi T.b_isinstance (ma_cons (me_var 1) (ma_cons (me_ty T.b_tuple) ma_nil))))
      (mb_cons (ms_if (MW.mt (mw_or (mt_not (mt_truth ts_truth (me_callB call_isi cs_isi T.b_isinstance (ma_cons (me_var 0) (ma_cons (me_ty T.b_tuple) ma_nil))))) (mw_or1 (mt_cmp (op_neD hr.units) os_ne (me_callB cl_len cs_lenAll T.b_len (ma_cons (me_var 0) ma_nil)) (me_callB cl_len cs_lenAll T.b_len (ma_cons (me_var 1) ma_nil)) (nomark _)))))
      (mb_one (ms_ret me_bl))
      mb_nil)
    (mb_one (ms_ret (me_callB (cr_all rfl) cs_all T.b_all (ma_cons (me_lc rfl sc__law_alike.nd (mi_range1 T.b_range (ma_cons (me_callB cl_len cs_lenAll T.b_len (ma_cons (me_var 1) ma_nil)) ma_nil)) (blkOk_by (own := [("k", 2)]) (by show blkC N__law_alike (defScope s__law_alike) _ _ = true; decide +kernel)) (fun _ _ _ _ _ => (mgc_var sc__law_alike.nd rfl (.inl rfl) (by decide))) (fun _ _ _ _ _ => mts_nil) (fun _ _ _ _ _ => (me_call (fnOk_noX (wr__law_alike T j)) hr T.d__law_alike.mgf T.d__law_alike.fn.kp T.d__law_alike.bd takes0N (ma_cons (me_ix ix_seq os_ix (me_var 0) (me_var 2)) (ma_cons (me_ix ix_seq os_ix (me_var 1) (me_var 2)) ma_nil))))) ma_nil)))))
      mb_nil)
    (mb_cons (ms_if (mt_cmp op_isN os_is (me_var 1) me_non (nomark _))
      (mb_one (ms_ret (me_cmp op_isN os_is (me_var 0) me_non (nomark _))))
      mb_nil)
    (mb_cons (ms_if (MW.mt (mw_or (mt_truth ts_truth (me_callB call_isi cs_isi T.b_isinstance (ma_cons (me_var 1) (ma_cons (me_ty T.b_bool) ma_nil)))) (mw_or1 (mt_truth ts_truth (me_callB call_isi cs_isi T.b_isinstance (ma_cons (me_var 0) (ma_cons (me_ty T.b_bool) ma_nil)))))))
      (mb_one (ms_ret (me_and (me_callB call_isi cs_isi T.b_isinstance (ma_cons (me_var 1) (ma_cons (me_ty T.b_bool) ma_nil))) (me_and (me_callB call_isi cs_isi T.b_isinstance (ma_cons (me_var 0) (ma_cons (me_ty T.b_bool) ma_nil))) (me_one (me_cmp (op_eqD hr.units) os_eq (me_var 0) (me_var 1) (nomark _)))))))
      mb_nil)
    (mb_cons (ms_if (mt_truth ts_truth (me_callB call_isi cs_isi T.b_isinstance (ma_cons (me_var 1) (ma_cons (me_ty T.b_int) ma_nil))))
      (mb_one (ms_ret (me_and (me_callB call_isi cs_isi T.b_isinstance (ma_cons (me_var 0) (ma_cons (me_ty T.b_int) ma_nil))) (me_one (me_cmp (op_eqD hr.units) os_eq (me_var 0) (me_var 1) (nomark _))))))
      mb_nil)
    (mb_one (ms_ret (me_and (me_callB call_isi cs_isi T.b_isinstance (ma_cons (me_var 0) (ma_cons (me_ty T.b_str) ma_nil))) (me_one (me_cmp (op_eqD hr.units) os_eq (me_var 0) (me_var 1) (nomark _))))))))))
theorem w__law_alike (T : Txt K mg) : FnOk P0 w K mg base (L2N.CX P0 w) 7 T.f__law_alike T.fd__law_alike ["told", "due"] (spF K mg 2 c__law_alike) := wr__law_alike T 6
theorem whr__law_alike (T : Txt K mg) : ∀ j, FnHot P0 w K mg base (j + 1) T.f__law_alike T.fd__law_alike ["told", "due"] (spF K mg 2 (noX (cr__law_alike j)))
  | 0 => fnHot_stuck
  | j + 1 => by
    rw [show j + 1 + 1 = j + 1 + 1 by omega]
    refine fn_okH (n := 3) (m := m__law_alike (noX (cr__law_alike j))) T.d__law_alike.fn sc__law_alike rfl rfl fun cdv A outer s H E p hr hot => ?_
    exact (mb_cons (ms_if (mt_truth ts_truth (me_callB call_isi cs_isi T.b_isinstance (ma_cons (me_var 1) (ma_cons (me_ty T.b_tuple) ma_nil))))
      (mb_cons (ms_if (MW.mt (mw_or (mt_not (mt_truth ts_truth (me_callB call_isi cs_isi T.b_isinstance (ma_cons (me_var 0) (ma_cons (me_ty T.b_tuple) ma_nil))))) (mw_or1 (mt_cmp (op_neD hr.units) os_ne (me_callB cl_len cs_lenAll T.b_len (ma_cons (me_var 0) ma_nil)) (me_callB cl_len cs_lenAll T.b_len (ma_cons (me_var 1) ma_nil)) (nomark _)))))
      (mb_one (ms_ret me_bl))
      mb_nil)
    (mb_one (ms_ret (me_callB (cr_allH hot) cs_all T.b_all (ma_cons (me_lcH hot sc__law_alike.nd (mi_range1H T.b_range (ma_cons (me_callB cl_len cs_lenAll T.b_len (ma_cons (me_var 1) ma_nil)) ma_nil)) (blkOk_by (own := [("k", 2)]) (by show blkC N__law_alike (defScope s__law_alike) _ _ = true; decide +kernel)) (fun _ _ _ _ _ _ h1 => (mgc_var sc__law_alike.nd rfl (.inl rfl) (by decide))) (fun _ _ _ _ _ _ h1 => mts_nil) (fun _ _ _ _ _ _ h1 => (me_callH (whr__law_alike T j) hr (hot_blk h1) T.d__law_alike.mgf T.d__law_alike.fn.kp T.d__law_alike.bd (ma_cons (me_ix ix_seq os_ix (me_var 0) (me_var 2)) (ma_cons (me_ix ix_seq os_ix (me_var 1) (me_var 2)) ma_nil))))) ma_nil)))))
      mb_nil)
    (mb_cons (ms_if (mt_cmp op_isN os_is (me_var 1) me_non (nomark _))
      (mb_one (ms_ret (me_cmp op_isN os_is (me_var 0) me_non (nomark _))))
      mb_nil)
    (mb_cons (ms_if (MW.mt (mw_or (mt_truth ts_truth (me_callB call_isi cs_isi T.b_isinstance (ma_cons (me_var 1) (ma_cons (me_ty T.b_bool) ma_nil)))) (mw_or1 (mt_truth ts_truth (me_callB call_isi cs_isi T.b_isinstance (ma_cons (me_var 0) (ma_cons (me_ty T.b_bool) ma_nil)))))))
      (mb_one (ms_ret (me_and (me_callB call_isi cs_isi T.b_isinstance (ma_cons (me_var 1) (ma_cons (me_ty T.b_bool) ma_nil))) (me_and (me_callB call_isi cs_isi T.b_isinstance (ma_cons (me_var 0) (ma_cons (me_ty T.b_bool) ma_nil))) (me_one (me_cmp (op_eqD hr.units) os_eq (me_var 0) (me_var 1) (nomark _)))))))
      mb_nil)
    (mb_cons (ms_if (mt_truth ts_truth (me_callB call_isi cs_isi T.b_isinstance (ma_cons (me_var 1) (ma_cons (me_ty T.b_int) ma_nil))))
      (mb_one (ms_ret (me_and (me_callB call_isi cs_isi T.b_isinstance (ma_cons (me_var 0) (ma_cons (me_ty T.b_int) ma_nil))) (me_one (me_cmp (op_eqD hr.units) os_eq (me_var 0) (me_var 1) (nomark _))))))
      mb_nil)
    (mb_one (ms_ret (me_and (me_callB call_isi cs_isi T.b_isinstance (ma_cons (me_var 0) (ma_cons (me_ty T.b_str) ma_nil))) (me_one (me_cmp (op_eqD hr.units) os_eq (me_var 0) (me_var 1) (nomark _))))))))))
theorem wh__law_alike (T : Txt K mg) : FnHot P0 w K mg base 7 T.f__law_alike T.fd__law_alike ["told", "due"] (spF K mg 2 (noX c__law_alike)) := whr__law_alike T 6
theorem w__law_size (T : Txt K mg) : FnOk P0 w K mg base (L2N.CX P0 w) 2 T.f__law_size T.fd__law_size ["bag"] (spF K mg 1 c__law_size) := by
  refine fn_ok (n := 2) (m := m__law_size) T.d__law_size.fn sc__law_size rfl rfl fun cdv A outer s H E hr => ?_
  have tk : L2N.Takes (cxOf (L2N.CX P0 w) P0 w K mg base N__law_size "_law_size" (defScope s__law_size) T.f__law_size cdv A outer s H E) (fun cls d _ H => E cls d H) := L2N.takes_of rfl rfl rfl rfl
  have po := passes_of (X := cxOf (L2N.CX P0 w) P0 w K mg base N__law_size "_law_size" (defScope s__law_size) T.f__law_size cdv A outer s H E) rfl
  exact (mb_cons (ms_set (i := 1) sc__law_size.nd rfl (.inl rfl) (me_call (w__law_take T) (hr.mono (by decide)) T.d__law_take.mgf T.d__law_take.fn.kp T.d__law_take.bd tk (ma_cons (me_var 0) (ma_cons me_int ma_nil))))
    (mb_cons (ms_if (mt_cmp (op_eqD hr.units) os_eq (me_var 1) me_int (nomark _))
      (mb_one (ms_ret (me_op op_addAll os_add me_int (me_call (w__law_take T) (hr.mono (by decide)) T.d__law_take.mgf T.d__law_take.fn.kp T.d__law_take.bd tk (ma_cons (me_var 0) (ma_cons me_int ma_nil))))))
      mb_nil)
    (mb_cons (ms_if (mt_cmp (op_eqD hr.units) os_eq (me_var 1) me_int (nomark _))
      (mb_one (ms_ret (me_op op_addAll os_add me_int (me_call (w__law_take T) (hr.mono (by decide)) T.d__law_take.mgf T.d__law_take.fn.kp T.d__law_take.bd tk (ma_cons (me_var 0) (ma_cons me_int ma_nil))))))
      mb_nil)
    (mb_one (ms_ret (me_op op_addAll os_add me_int (me_call (w__law_take T) (hr.mono (by decide)) T.d__law_take.mgf T.d__law_take.fn.kp T.d__law_take.bd tk (ma_cons (me_var 0) (ma_cons me_int ma_nil)))))))))
theorem w__law_perm (T : Txt K mg) : FnOk P0 w K mg base (L2N.CX P0 w) 2 T.f__law_perm T.fd__law_perm ["bag", "size"] (spF K mg 2 c__law_perm) := by
  refine fn_ok (n := 8) (m := m__law_perm) T.d__law_perm.fn sc__law_perm rfl rfl fun cdv A outer s H E hr => ?_
  have tk : L2N.Takes (cxOf (L2N.CX P0 w) P0 w K mg base N__law_perm "_law_perm" (defScope s__law_perm) T.f__law_perm cdv A outer s H E) (fun cls d _ H => E cls d H) := L2N.takes_of rfl rfl rfl rfl
  have po := passes_of (X := cxOf (L2N.CX P0 w) P0 w K mg base N__law_perm "_law_perm" (defScope s__law_perm) T.f__law_perm cdv A outer s H E) rfl
  exact (mb_cons (ms_set (i := 2) sc__law_perm.nd rfl (.inl rfl) (me_call (w__law_take T) (hr.mono (by decide)) T.d__law_take.mgf T.d__law_take.fn.kp T.d__law_take.bd tk (ma_cons (me_var 0) (ma_cons me_int ma_nil))))
    (mb_cons (ms_set (i := 3) sc__law_perm.nd rfl (.inl rfl) (me_listRg1 rfl T.b_list T.b_range (me_var 1)))
    (mb_cons (ms_if (mt_cmp (op_eqD hr.units) os_eq (me_var 2) me_int (nomark _))
      (mb_one (ms_ret (me_callTy call_tuple_of cs_tuple T.b_tuple (ma_cons (me_var 3) ma_nil))))
      mb_nil)
    (mb_cons (ms_set (i := 4) sc__law_perm.nd rfl (.inr rfl) (me_call (w__law_take T) (hr.mono (by decide)) T.d__law_take.mgf T.d__law_take.fn.kp T.d__law_take.bd tk (ma_cons (me_var 0) (ma_cons (me_var 1) ma_nil))))
    (mb_cons (ms_if (mt_cmp (op_eqD hr.units) os_eq (me_var 2) me_int (nomark _))
      (mb_one (ms_ret (me_callTy call_tuple_of cs_tuple T.b_tuple (ma_cons (me_lc rfl sc__law_perm.nd (mi_range1 T.b_range (ma_cons (me_var 1) ma_nil)) (blkOk_by (own := [("k", 5)]) (by show blkC N__law_perm (defScope s__law_perm) _ _ = true; decide +kernel)) (fun _ _ _ _ _ => (mgc_var sc__law_perm.nd rfl (.inl rfl) (by decide))) (fun _ _ _ _ _ => mts_nil) (fun _ _ _ _ _ => (me_op op_mod os_mod (me_op op_addAll os_add (me_var 5) (me_var 4)) (me_var 1)))) ma_nil))))
      mb_nil)
    (mb_cons (ms_if (mt_cmp (op_eqD hr.units) os_eq (me_var 2) me_int (nomark _))
      (mb_cons (ms_set (i := 6) sc__law_perm.nd rfl (.inl rfl) (me_call (w__law_take T) (hr.mono (by decide)) T.d__law_take.mgf T.d__law_take.fn.kp T.d__law_take.bd tk (ma_cons (me_var 0) (ma_cons (me_var 1) ma_nil))))
    (mb_cons (ms_asg (me_var 6) (mg_sub set_list ss_list (me_var 3) (me_var 4)))
    (mb_cons (ms_asg (me_var 4) (mg_sub set_list ss_list (me_var 3) (me_var 6)))
    (mb_one (ms_ret (me_callTy call_tuple_of cs_tuple T.b_tuple (ma_cons (me_var 3) ma_nil)))))))
      mb_nil)
    (mb_cons (ms_set (i := 7) sc__law_perm.nd rfl (.inl rfl) (me_lst (ma_cons (me_meth PySem.F.plainAttrs_list PySem.F.slot_list_pop PySem.F.type_list_pop mt_popAt ms_popAt (me_var 3) (ma_cons (me_var 4) ma_nil)) ma_nil)))
    (mb_cons (ms_for po rfl (mi_range2 T.b_range (ma_cons me_int (ma_cons (me_var 1) ma_nil))) (mg_var sc__law_perm.nd rfl (.inl rfl))
      (mb_one (ms_expr (me_meth PySem.F.plainAttrs_list PySem.F.slot_list_append PySem.F.type_list_append mt_append ms_append (me_var 7) (ma_cons (me_meth PySem.F.plainAttrs_list PySem.F.slot_list_pop PySem.F.type_list_pop mt_popAt ms_popAt (me_var 3) (ma_cons (me_call (w__law_take T) (hr.mono (by decide)) T.d__law_take.mgf T.d__law_take.fn.kp T.d__law_take.bd tk (ma_cons (me_var 0) (ma_cons (me_op op_sub os_sub (me_var 1) (me_var 5)) ma_nil))) ma_nil)) ma_nil)))))
    (mb_one (ms_ret (me_callTy call_tuple_of cs_tuple T.b_tuple (ma_cons (me_var 7) ma_nil))))))))))))
theorem w__law_laps (T : Txt K mg) : FnOk P0 w K mg base (L2N.CX P0 w) 1 T.f__law_laps T.fd__law_laps ["row"] (spF K mg 1 c__law_laps) := by
  refine fn_ok (n := 7) (m := m__law_laps) T.d__law_laps.fn sc__law_laps rfl rfl fun cdv A outer s H E hr => ?_
  have tk : L2N.Takes (cxOf (L2N.CX P0 w) P0 w K mg base N__law_laps "_law_laps" (defScope s__law_laps) T.f__law_laps cdv A outer s H E) (fun cls d _ H => E cls d H) := L2N.takes_of rfl rfl rfl rfl
  have po := passes_of (X := cxOf (L2N.CX P0 w) P0 w K mg base N__law_laps "_law_laps" (defScope s__law_laps) T.f__law_laps cdv A outer s H E) rfl
  exact (mb_cons (ms_set (i := 1) sc__law_laps.nd rfl (.inl rfl) (me_lst ma_nil))
    (mb_cons (ms_set (i := 2) sc__law_laps.nd rfl (.inl rfl) (me_op op_mulA os_mulA (me_lst (ma_cons me_bl ma_nil)) (me_callB cl_len cs_lenAll T.b_len (ma_cons (me_var 0) ma_nil))))
    (mb_cons (ms_for po rfl (mi_range1 T.b_range (ma_cons (me_callB cl_len cs_lenAll T.b_len (ma_cons (me_var 0) ma_nil)) ma_nil)) (mg_var sc__law_laps.nd rfl (.inl rfl))
      (mb_cons (ms_set (i := 4) sc__law_laps.nd rfl (.inl rfl) (me_lst ma_nil))
    (mb_cons (ms_set (i := 5) sc__law_laps.nd rfl (.inl rfl) (me_var 3))
    (mb_cons (ms_for po rfl (mi_range1 T.b_range (ma_cons (me_callB cl_len cs_lenAll T.b_len (ma_cons (me_var 0) ma_nil)) ma_nil)) (mg_var sc__law_laps.nd rfl (.inl rfl))
      (mb_cons (ms_if (mt_truth ts_truth (me_ix ix_seq os_ix (me_var 2) (me_var 5)))
      (mb_one ms_break)
      mb_nil)
    (mb_cons (ms_asg me_bl (mg_sub set_list ss_list (me_var 2) (me_var 5)))
    (mb_cons (ms_expr (me_meth PySem.F.plainAttrs_list PySem.F.slot_list_append PySem.F.type_list_append mt_append ms_append (me_var 4) (ma_cons (me_var 5) ma_nil)))
    (mb_one (ms_set (i := 5) sc__law_laps.nd rfl (.inl rfl) (me_ix ix_seq os_ix (me_var 0) (me_var 5))))))))
    (mb_one (ms_if (mt_truth ts_truth (me_var 4))
      (mb_one (ms_expr (me_meth PySem.F.plainAttrs_list PySem.F.slot_list_append PySem.F.type_list_append mt_append ms_append (me_var 1) (ma_cons (me_var 4) ma_nil))))
      mb_nil))))))
    (mb_one (ms_ret (me_var 1))))))
theorem w__law_parity (T : Txt K mg) : FnOk P0 w K mg base (L2N.CX P0 w) 2 T.f__law_parity T.fd__law_parity ["row"] (spF K mg 1 c__law_parity) := by
  refine fn_ok (n := 3) (m := m__law_parity) T.d__law_parity.fn sc__law_parity rfl rfl fun cdv A outer s H E hr => ?_
  have tk : L2N.Takes (cxOf (L2N.CX P0 w) P0 w K mg base N__law_parity "_law_parity" (defScope s__law_parity) T.f__law_parity cdv A outer s H E) (fun cls d _ H => E cls d H) := L2N.takes_of rfl rfl rfl rfl
  have po := passes_of (X := cxOf (L2N.CX P0 w) P0 w K mg base N__law_parity "_law_parity" (defScope s__law_parity) T.f__law_parity cdv A outer s H E) rfl
  exact (mb_cons (ms_setLc (i := 1) rfl sc__law_parity.nd rfl rfl (sw_true rfl rfl rfl (by decide +kernel)) (mi_val (me_call (w__law_laps T) (hr.mono (by decide)) T.d__law_laps.mgf T.d__law_laps.fn.kp T.d__law_laps.bd tk (ma_cons (me_var 0) ma_nil))) (blkOk_by (own := [("lap", 2)]) (by show blkC N__law_parity (defScope s__law_parity) _ _ = true; decide +kernel)) (fun _ _ _ _ _ => (mgc_var sc__law_parity.nd rfl (.inl rfl) (by decide))) (fun _ _ _ _ _ => (mts_one (mt_cmp (op_eqD hr.units) os_eq (me_op op_mod os_mod (me_callB cl_len cs_lenAll T.b_len (ma_cons (me_var 2) ma_nil)) me_int) me_int (nomark _)))) (fun _ _ _ _ _ => (me_var 2)))
    (mb_one (ms_ret (me_op op_sub os_sub me_int (me_op op_mulA os_mulA me_int (me_op op_mod os_mod (me_callB cl_len cs_lenAll T.b_len (ma_cons (me_var 1) ma_nil)) me_int))))))
theorem w__law_period (T : Txt K mg) : FnOk P0 w K mg base (L2N.CX P0 w) 2 T.f__law_period T.fd__law_period ["row"] (spF K mg 1 c__law_period) := by
  refine fn_ok (n := 5) (m := m__law_period) T.d__law_period.fn sc__law_period rfl rfl fun cdv A outer s H E hr => ?_
  have tk : L2N.Takes (cxOf (L2N.CX P0 w) P0 w K mg base N__law_period "_law_period" (defScope s__law_period) T.f__law_period cdv A outer s H E) (fun cls d _ H => E cls d H) := L2N.takes_of rfl rfl rfl rfl
  have po := passes_of (X := cxOf (L2N.CX P0 w) P0 w K mg base N__law_period "_law_period" (defScope s__law_period) T.f__law_period cdv A outer s H E) rfl
  exact (mb_cons (ms_set (i := 1) sc__law_period.nd rfl (.inl rfl) me_int)
    (mb_cons (ms_for po rfl (mi_val (me_call (w__law_laps T) (hr.mono (by decide)) T.d__law_laps.mgf T.d__law_laps.fn.kp T.d__law_laps.bd tk (ma_cons (me_var 0) ma_nil))) (mg_var sc__law_period.nd rfl (.inl rfl))
      (mb_cons (ms_set (i := 3) sc__law_period.nd rfl (.inl rfl) (me_var 1))
    (mb_one (ms_for po rfl (mi_range1 T.b_range (ma_cons (me_callB cl_len cs_lenAll T.b_len (ma_cons (me_var 2) ma_nil)) ma_nil)) (mg_var sc__law_period.nd rfl (.inl rfl))
      (mb_cons (ms_if (mt_cmp (op_eqD hr.units) os_eq (me_op op_mod os_mod (me_var 1) (me_callB cl_len cs_lenAll T.b_len (ma_cons (me_var 2) ma_nil))) me_int (nomark _))
      (mb_one ms_break)
      mb_nil)
    (mb_one (ms_set (i := 1) sc__law_period.nd rfl (.inl rfl) (me_op op_addAll os_add (me_var 1) (me_var 3)))))))))
    (mb_one (ms_ret (me_var 1)))))
theorem w__law_plain (T : Txt K mg) : FnOk P0 w K mg base (L2N.CX P0 w) 1 T.f__law_plain T.fd__law_plain ["rows"] (spF K mg 1 c__law_plain) := by
  refine fn_ok (n := 2) (m := m__law_plain) T.d__law_plain.fn sc__law_plain rfl rfl fun cdv A outer s H E hr => ?_
  have tk : L2N.Takes (cxOf (L2N.CX P0 w) P0 w K mg base N__law_plain "_law_plain" (defScope s__law_plain) T.f__law_plain cdv A outer s H E) (fun cls d _ H => E cls d H) := L2N.takes_of rfl rfl rfl rfl
  have po := passes_of (X := cxOf (L2N.CX P0 w) P0 w K mg base N__law_plain "_law_plain" (defScope s__law_plain) T.f__law_plain cdv A outer s H E) rfl
  exact (mb_one (ms_ret (me_callTy call_tuple_of cs_tuple T.b_tuple (ma_cons (me_lc rfl sc__law_plain.nd (mi_val (me_var 0)) (blkOk_by (own := [("row", 1)]) (by show blkC N__law_plain (defScope s__law_plain) _ _ = true; decide +kernel)) (fun _ _ _ _ _ => (mgc_var sc__law_plain.nd rfl (.inl rfl) (by decide))) (fun _ _ _ _ _ => mts_nil) (fun _ _ _ _ _ => (me_callTy call_tuple_of cs_tuple T.b_tuple (ma_cons (me_var 1) ma_nil)))) ma_nil))))
theorem w__law_described (T : Txt K mg) : FnOk P0 w K mg base (L2N.CX P0 w) 8 T.f__law_described T.fd__law_described ["row"] (spF K mg 1 c__law_described) := by
  refine fn_ok (n := 6) (m := m__law_described) T.d__law_described.fn sc__law_described rfl rfl fun cdv A outer s H E hr => ?_
  have tk : L2N.Takes (cxOf (L2N.CX P0 w) P0 w K mg base N__law_described "_law_described" (defScope s__law_described) T.f__law_described cdv A outer s H E) (fun cls d _ H => E cls d H) := L2N.takes_of rfl rfl rfl rfl
  have po := passes_of (X := cxOf (L2N.CX P0 w) P0 w K mg base N__law_described "_law_described" (defScope s__law_described) T.f__law_described cdv A outer s H E) rfl
  exact (mb_cons (ms_set (i := 1) sc__law_described.nd rfl (.inl rfl) (me_call (w__law_laps T) (hr.mono (by decide)) T.d__law_laps.mgf T.d__law_laps.fn.kp T.d__law_laps.bd tk (ma_cons (me_var 0) ma_nil)))
    (mb_cons (ms_set (i := 2) sc__law_described.nd rfl (.inl rfl) (me_call (w__law_plain T) (hr.mono (by decide)) T.d__law_plain.mgf T.d__law_plain.fn.kp T.d__law_plain.bd tk (ma_cons (me_lc rfl sc__law_described.nd (mi_val (me_var 1)) (blkOk_by (own := [("lap", 3)]) (by show blkC N__law_described (defScope s__law_described) _ _ = true; decide +kernel)) (fun _ _ _ _ _ => (mgc_var sc__law_described.nd rfl (.inl rfl) (by decide))) (fun _ _ _ _ _ => (mts_one (mt_cmp op_gt os_gt (me_callB cl_len cs_lenAll T.b_len (ma_cons (me_var 3) ma_nil)) me_int (nomark _)))) (fun _ _ _ _ _ => (me_var 3))) ma_nil)))
    (mb_cons (ms_set (i := 4) sc__law_described.nd rfl (.inl rfl) (me_and (me_call (w__law_alike T) (hr.mono (by decide)) T.d__law_alike.mgf T.d__law_alike.fn.kp T.d__law_alike.bd tk (ma_cons (me_callKd (pl := 2) (cs := [(.bl false)]) (w_cycles_of T) (hr.mono (by decide)) T.d_cycles_of.mgf T.d_cycles_of.fn.kp T.kb_1 tk (ma_cons (me_var 0) ma_nil) mk_nil (by exact fun us ws h1 h2 => match us, ws, h1, h2 with | [_], [], _, _ => rfl)) (ma_cons (me_var 2) ma_nil))) (me_one (me_call (w__law_alike T) (hr.mono (by decide)) T.d__law_alike.mgf T.d__law_alike.fn.kp T.d__law_alike.bd tk (ma_cons (me_callK (pl := 2) (w_cycles_of T) (hr.mono (by decide)) T.d_cycles_of.mgf T.d_cycles_of.fn.kp T.kb_0 tk (ma_cons (me_var 0) ma_nil) (mk_cons me_bl mk_nil) (by exact fun us ws h1 h2 => match us, ws, h1, h2 with | [_], [_], _, _ => rfl)) (ma_cons (me_var 2) ma_nil))))))
    (mb_cons (ms_set (i := 4) sc__law_described.nd rfl (.inl rfl) (me_and (me_var 4) (me_one (me_call (w__law_alike T) (hr.mono (by decide)) T.d__law_alike.mgf T.d__law_alike.fn.kp T.d__law_alike.bd tk (ma_cons (me_callK (pl := 2) (w_cycles_of T) (hr.mono (by decide)) T.d_cycles_of.mgf T.d_cycles_of.fn.kp T.kb_0 tk (ma_cons (me_var 0) ma_nil) (mk_cons me_bl mk_nil) (by exact fun us ws h1 h2 => match us, ws, h1, h2 with | [_], [_], _, _ => rfl)) (ma_cons (me_call (w__law_plain T) (hr.mono (by decide)) T.d__law_plain.mgf T.d__law_plain.fn.kp T.d__law_plain.bd tk (ma_cons (me_var 1) ma_nil)) ma_nil))))))
    (mb_cons (ms_set (i := 4) sc__law_described.nd rfl (.inl rfl) (me_and (me_var 4) (me_one (me_call (w__law_alike T) (hr.mono (by decide)) T.d__law_alike.mgf T.d__law_alike.fn.kp T.d__law_alike.bd tk (ma_cons (me_callK0 (pl := 2) (w_cycles_of T) (hr.mono (by decide)) T.d_cycles_of.mgf T.d_cycles_of.fn.kp T.kb_2 tk (mk_cons me_bl (mk_cons (me_var 0) mk_nil)) (by exact fun us ws h1 h2 => match us, ws, h1, h2 with | [], [_, _], _, _ => rfl)) (ma_cons (me_call (w__law_plain T) (hr.mono (by decide)) T.d__law_plain.mgf T.d__law_plain.fn.kp T.d__law_plain.bd tk (ma_cons (me_var 1) ma_nil)) ma_nil))))))
    (mb_cons (ms_set (i := 5) sc__law_described.nd rfl (.inl rfl) (me_callTy call_tuple_of cs_tuple T.b_tuple (ma_cons (me_callBK cr_sortedRv cs_sortedR T.b_sorted (ma_cons (me_lc rfl sc__law_described.nd (mi_val (me_var 1)) (blkOk_by (own := [("lap", 3)]) (by show blkC N__law_described (defScope s__law_described) _ _ = true; decide +kernel)) (fun _ _ _ _ _ => (mgc_var sc__law_described.nd rfl (.inl rfl) (by decide))) (fun _ _ _ _ _ => mts_nil) (fun _ _ _ _ _ => (me_callB cl_len cs_lenAll T.b_len (ma_cons (me_var 3) ma_nil)))) ma_nil) (mk_cons me_bl mk_nil)) ma_nil)))
    (mb_cons (ms_set (i := 4) sc__law_described.nd rfl (.inl rfl) (me_and (me_var 4) (me_and (me_call (w__law_alike T) (hr.mono (by decide)) T.d__law_alike.mgf T.d__law_alike.fn.kp T.d__law_alike.bd tk (ma_cons (me_call (w_shape_of T) (hr.mono (by decide)) T.d_shape_of.mgf T.d_shape_of.fn.kp T.d_shape_of.bd tk (ma_cons (me_var 0) ma_nil)) (ma_cons (me_var 5) ma_nil))) (me_one (me_call (w__law_alike T) (hr.mono (by decide)) T.d__law_alike.mgf T.d__law_alike.fn.kp T.d__law_alike.bd tk (ma_cons (me_callK0 (pl := 1) (w_shape_of T) (hr.mono (by decide)) T.d_shape_of.mgf T.d_shape_of.fn.kp T.kb_3 tk (mk_cons (me_var 0) mk_nil) (by exact fun us ws h1 h2 => match us, ws, h1, h2 with | [], [_], _, _ => rfl)) (ma_cons (me_var 5) ma_nil)))))))
    (mb_cons (ms_set (i := 5) sc__law_described.nd rfl (.inl rfl) (me_call (w__law_period T) (hr.mono (by decide)) T.d__law_period.mgf T.d__law_period.fn.kp T.d__law_period.bd tk (ma_cons (me_var 0) ma_nil)))
    (mb_cons (ms_set (i := 4) sc__law_described.nd rfl (.inl rfl) (me_and (me_var 4) (me_and (me_call (w__law_alike T) (hr.mono (by decide)) T.d__law_alike.mgf T.d__law_alike.fn.kp T.d__law_alike.bd tk (ma_cons (me_call (w_period T) (hr.mono (by decide)) T.d_period.mgf T.d_period.fn.kp T.d_period.bd tk (ma_cons (me_var 0) ma_nil)) (ma_cons (me_var 5) ma_nil))) (me_one (me_call (w__law_alike T) (hr.mono (by decide)) T.d__law_alike.mgf T.d__law_alike.fn.kp T.d__law_alike.bd tk (ma_cons (me_callK0 (pl := 1) (w_period T) (hr.mono (by decide)) T.d_period.mgf T.d_period.fn.kp T.kb_4 tk (mk_cons (me_var 0) mk_nil) (by exact fun us ws h1 h2 => match us, ws, h1, h2 with | [], [_], _, _ => rfl)) (ma_cons (me_var 5) ma_nil)))))))
    (mb_one (ms_ret (me_and (me_var 4) (me_one (me_call (w__law_alike T) (hr.mono (by decide)) T.d__law_alike.mgf T.d__law_alike.fn.kp T.d__law_alike.bd tk (ma_cons (me_call (w_sign T) (hr.mono (by decide)) T.d_sign.mgf T.d_sign.fn.kp T.d_sign.bd tk (ma_cons (me_var 0) ma_nil)) (ma_cons (me_call (w__law_parity T) (hr.mono (by decide)) T.d__law_parity.mgf T.d__law_parity.fn.kp T.d__law_parity.bd tk (ma_cons (me_var 0) ma_nil)) ma_nil))))))))))))))))
theorem w__law_turned (T : Txt K mg) : FnOk P0 w K mg base (L2N.CX P0 w) 2 T.f__law_turned T.fd__law_turned ["bag", "row"] (spF K mg 2 c__law_turned) := by
  refine fn_ok (n := 7) (m := m__law_turned) T.d__law_turned.fn sc__law_turned rfl rfl fun cdv A outer s H E hr => ?_
  have tk : L2N.Takes (cxOf (L2N.CX P0 w) P0 w K mg base N__law_turned "_law_turned" (defScope s__law_turned) T.f__law_turned cdv A outer s H E) (fun cls d _ H => E cls d H) := L2N.takes_of rfl rfl rfl rfl
  have po := passes_of (X := cxOf (L2N.CX P0 w) P0 w K mg base N__law_turned "_law_turned" (defScope s__law_turned) T.f__law_turned cdv A outer s H E) rfl
  exact (mb_cons (ms_set (i := 2) sc__law_turned.nd rfl (.inl rfl) (me_lst ma_nil))
    (mb_cons (ms_for po rfl (mi_val (me_call (w__law_laps T) (hr.mono (by decide)) T.d__law_laps.mgf T.d__law_laps.fn.kp T.d__law_laps.bd tk (ma_cons (me_var 1) ma_nil))) (mg_var sc__law_turned.nd rfl (.inl rfl))
      (mb_cons (ms_set (i := 4) sc__law_turned.nd rfl (.inl rfl) (me_call (w__law_take T) (hr.mono (by decide)) T.d__law_take.mgf T.d__law_take.fn.kp T.d__law_take.bd tk (ma_cons (me_var 0) (ma_cons (me_callB cl_len cs_lenAll T.b_len (ma_cons (me_var 3) ma_nil)) ma_nil))))
    (mb_one (ms_if (MW.mt (mw_or (mt_cmp op_gt os_gt (me_callB cl_len cs_lenAll T.b_len (ma_cons (me_var 3) ma_nil)) me_int (nomark _)) (mw_or1 (mt_cmp (op_eqD hr.units) os_eq (me_call (w__law_take T) (hr.mono (by decide)) T.d__law_take.mgf T.d__law_take.fn.kp T.d__law_take.bd tk (ma_cons (me_var 0) (ma_cons me_int ma_nil))) me_int (nomark _)))))
      (mb_one (ms_expr (me_meth PySem.F.plainAttrs_list PySem.F.slot_list_append PySem.F.type_list_append mt_append ms_append (me_var 2) (ma_cons (me_op op_addAll os_add (me_slice (me_var 3) (mo_some (me_var 4)) mo_none) (me_slice (me_var 3) mo_none (mo_some (me_var 4)))) ma_nil))))
      mb_nil))))
    (mb_cons (ms_set (i := 5) sc__law_turned.nd rfl (.inl rfl) (me_lst ma_nil))
    (mb_cons (ms_for po rfl (mi_range1 T.b_range (ma_cons (me_callB cl_len cs_lenAll T.b_len (ma_cons (me_var 2) ma_nil)) ma_nil)) (mg_var sc__law_turned.nd rfl (.inl rfl))
      (mb_one (ms_expr (me_meth PySem.F.plainAttrs_list PySem.F.slot_list_append PySem.F.type_list_append mt_append ms_append (me_var 5) (ma_cons (me_meth PySem.F.plainAttrs_list PySem.F.slot_list_pop PySem.F.type_list_pop mt_popAt ms_popAt (me_var 2) (ma_cons (me_call (w__law_take T) (hr.mono (by decide)) T.d__law_take.mgf T.d__law_take.fn.kp T.d__law_take.bd tk (ma_cons (me_var 0) (ma_cons (me_callB cl_len cs_lenAll T.b_len (ma_cons (me_var 2) ma_nil)) ma_nil))) ma_nil)) ma_nil)))))
    (mb_one (ms_ret (me_var 5)))))))
theorem w__law_put (T : Txt K mg) : FnOk P0 w K mg base (L2N.CX P0 w) 2 T.f__law_put T.fd__law_put ["bag", "rows", "thing"] (spF K mg 3 c__law_put) := by
  refine fn_ok (n := 6) (m := m__law_put) T.d__law_put.fn sc__law_put rfl rfl fun cdv A outer s H E hr => ?_
  have tk : L2N.Takes (cxOf (L2N.CX P0 w) P0 w K mg base N__law_put "_law_put" (defScope s__law_put) T.f__law_put cdv A outer s H E) (fun cls d _ H => E cls d H) := L2N.takes_of rfl rfl rfl rfl
  have po := passes_of (X := cxOf (L2N.CX P0 w) P0 w K mg base N__law_put "_law_put" (defScope s__law_put) T.f__law_put cdv A outer s H E) rfl
  exact (mb_cons (ms_set (i := 3) sc__law_put.nd rfl (.inl rfl) (me_call (w__law_take T) (hr.mono (by decide)) T.d__law_take.mgf T.d__law_take.fn.kp T.d__law_take.bd tk (ma_cons (me_var 0) (ma_cons (me_op op_addAll os_add (me_callB cl_len cs_lenAll T.b_len (ma_cons (me_var 1) ma_nil)) me_int) ma_nil))))
    (mb_cons (ms_if (mt_cmp (op_eqD hr.units) os_eq (me_var 3) (me_callB cl_len cs_lenAll T.b_len (ma_cons (me_var 1) ma_nil)) (nomark _))
      (mb_one (ms_ret (me_op op_addAll os_add (me_var 1) (me_lst (ma_cons (me_lst (ma_cons (me_var 2) ma_nil)) ma_nil)))))
      mb_nil)
    (mb_cons (ms_set (i := 4) sc__law_put.nd rfl (.inl rfl) (me_ix ix_seq os_ix (me_var 1) (me_var 3)))
    (mb_cons (ms_set (i := 5) sc__law_put.nd rfl (.inl rfl) (me_call (w__law_take T) (hr.mono (by decide)) T.d__law_take.mgf T.d__law_take.fn.kp T.d__law_take.bd tk (ma_cons (me_var 0) (ma_cons (me_op op_addAll os_add (me_callB cl_len cs_lenAll T.b_len (ma_cons (me_var 4) ma_nil)) me_int) ma_nil))))
    (mb_one (ms_ret (me_op op_addAll os_add (me_op op_addAll os_add (me_slice (me_var 1) mo_none (mo_some (me_var 3))) (me_lst (ma_cons (me_op op_addAll os_add (me_op op_addAll os_add (me_slice (me_var 4) mo_none (mo_some (me_var 5))) (me_lst (ma_cons (me_var 2) ma_nil))) (me_slice (me_var 4) (mo_some (me_var 5)) mo_none)) ma_nil))) (me_slice (me_var 1) (mo_some (me_op op_addAll os_add (me_var 3) me_int)) mo_none))))))))
theorem w__law_without (T : Txt K mg) : FnOk P0 w K mg base (L2N.CX P0 w) 1 T.f__law_without T.fd__law_without ["rows", "number"] (spF K mg 2 c__law_without) := by
  refine fn_ok (n := 6) (m := m__law_without) T.d__law_without.fn sc__law_without rfl rfl fun cdv A outer s H E hr => ?_
  have tk : L2N.Takes (cxOf (L2N.CX P0 w) P0 w K mg base N__law_without "_law_without" (defScope s__law_without) T.f__law_without cdv A outer s H E) (fun cls d _ H => E cls d H) := L2N.takes_of rfl rfl rfl rfl
  have po := passes_of (X := cxOf (L2N.CX P0 w) P0 w K mg base N__law_without "_law_without" (defScope s__law_without) T.f__law_without cdv A outer s H E) rfl
  exact (mb_cons (ms_set (i := 2) sc__law_without.nd rfl (.inl rfl) (me_lst ma_nil))
    (mb_cons (ms_for po rfl (mi_val (me_var 0)) (mg_var sc__law_without.nd rfl (.inl rfl))
      (mb_cons (ms_setLc (i := 4) rfl sc__law_without.nd rfl rfl (sw_true rfl rfl rfl (by decide +kernel)) (mi_val (me_var 3)) (blkOk_by (own := [("spot", 5)]) (by show blkC N__law_without (defScope s__law_without) _ _ = true; decide +kernel)) (fun _ _ _ _ _ => (mgc_var sc__law_without.nd rfl (.inl rfl) (by decide))) (fun _ _ _ _ _ => (mts_one (mt_cmp (op_neD hr.units) os_ne (me_var 5) (me_var 1) (nomark _)))) (fun _ _ _ _ _ => (me_var 5)))
    (mb_one (ms_if (mt_truth ts_truth (me_var 4))
      (mb_one (ms_expr (me_meth PySem.F.plainAttrs_list PySem.F.slot_list_append PySem.F.type_list_append mt_append ms_append (me_var 2) (ma_cons (me_var 4) ma_nil))))
      mb_nil))))
    (mb_one (ms_ret (me_var 2)))))
theorem w__law_spoilt (T : Txt K mg) : FnOk P0 w K mg base (L2N.CX P0 w) 3 T.f__law_spoilt T.fd__law_spoilt ["bag", "rows", "size"] (spF K mg 3 c__law_spoilt) := by
  refine fn_ok (n := 7) (m := m__law_spoilt) T.d__law_spoilt.fn sc__law_spoilt rfl rfl fun cdv A outer s H E hr => ?_
  have tk : L2N.Takes (cxOf (L2N.CX P0 w) P0 w K mg base N__law_spoilt "_law_spoilt" (defScope s__law_spoilt) T.f__law_spoilt cdv A outer s H E) (fun cls d _ H => E cls d H) := L2N.takes_of rfl rfl rfl rfl
  have po := passes_of (X := cxOf (L2N.CX P0 w) P0 w K mg base N__law_spoilt "_law_spoilt" (defScope s__law_spoilt) T.f__law_spoilt cdv A outer s H E) rfl
  exact (mb_cons (ms_set (i := 3) sc__law_spoilt.nd rfl (.inl rfl) (me_call (w__law_take T) (hr.mono (by decide)) T.d__law_take.mgf T.d__law_take.fn.kp T.d__law_take.bd tk (ma_cons (me_var 0) (ma_cons me_int ma_nil))))
    (mb_cons (ms_if (mt_cmp (op_eqD hr.units) os_eq (me_var 3) me_int (nomark _))
      (mb_cons (ms_set (i := 4) sc__law_spoilt.nd rfl (.inl rfl) (me_call (w__law_take T) (hr.mono (by decide)) T.d__law_take.mgf T.d__law_take.fn.kp T.d__law_take.bd tk (ma_cons (me_var 0) (ma_cons (me_op op_addAll os_add (me_callB cl_len cs_lenAll T.b_len (ma_cons (me_var 1) ma_nil)) me_int) ma_nil))))
    (mb_one (ms_ret (me_call (w__law_plain T) (hr.mono (by decide)) T.d__law_plain.mgf T.d__law_plain.fn.kp T.d__law_plain.bd tk (ma_cons (me_op op_addAll os_add (me_op op_addAll os_add (me_slice (me_var 1) mo_none (mo_some (me_var 4))) (me_lst (ma_cons (me_lst ma_nil) ma_nil))) (me_slice (me_var 1) (mo_some (me_var 4)) mo_none)) ma_nil)))))
      mb_nil)
    (mb_cons (ms_if (mt_cmp (op_eqD hr.units) os_eq (me_var 3) me_int (nomark _))
      (mb_one (ms_ret (me_call (w__law_plain T) (hr.mono (by decide)) T.d__law_plain.mgf T.d__law_plain.fn.kp T.d__law_plain.bd tk (ma_cons (me_call (w__law_put T) (hr.mono (by decide)) T.d__law_put.mgf T.d__law_put.fn.kp T.d__law_put.bd tk (ma_cons (me_var 0) (ma_cons (me_var 1) (ma_cons (me_op op_addAll os_add (me_var 2) (me_call (w__law_take T) (hr.mono (by decide)) T.d__law_take.mgf T.d__law_take.fn.kp T.d__law_take.bd tk (ma_cons (me_var 0) (ma_cons me_int ma_nil)))) ma_nil)))) ma_nil))))
      mb_nil)
    (mb_cons (ms_if (mt_cmp (op_eqD hr.units) os_eq (me_var 3) me_int (nomark _))
      (mb_one (ms_ret (me_call (w__law_plain T) (hr.mono (by decide)) T.d__law_plain.mgf T.d__law_plain.fn.kp T.d__law_plain.bd tk (ma_cons (me_call (w__law_put T) (hr.mono (by decide)) T.d__law_put.mgf T.d__law_put.fn.kp T.d__law_put.bd tk (ma_cons (me_var 0) (ma_cons (me_var 1) (ma_cons (me_op op_sub os_sub (me_un un_neg us_neg me_int) (me_call (w__law_take T) (hr.mono (by decide)) T.d__law_take.mgf T.d__law_take.fn.kp T.d__law_take.bd tk (ma_cons (me_var 0) (ma_cons me_int ma_nil)))) ma_nil)))) ma_nil))))
      mb_nil)
    (mb_cons (ms_if (MW.mt (mw_or (mt_cmp (op_eqD hr.units) os_eq (me_var 3) me_int (nomark _)) (mw_or1 (MW.mt (mw_and (mt_cmp (op_eqD hr.units) os_eq (me_var 3) me_int (nomark _)) (mw_and1 (mt_not (mt_truth ts_truth (me_var 1)))))))))
      (mb_cons (ms_set (i := 4) sc__law_spoilt.nd rfl (.inl rfl) (me_call (w__law_take T) (hr.mono (by decide)) T.d__law_take.mgf T.d__law_take.fn.kp T.d__law_take.bd tk (ma_cons (me_var 0) (ma_cons (me_var 2) ma_nil))))
    (mb_one (ms_ret (me_call (w__law_plain T) (hr.mono (by decide)) T.d__law_plain.mgf T.d__law_plain.fn.kp T.d__law_plain.bd tk (ma_cons (me_call (w__law_put T) (hr.mono (by decide)) T.d__law_put.mgf T.d__law_put.fn.kp T.d__law_put.bd tk (ma_cons (me_var 0) (ma_cons (me_call (w__law_put T) (hr.mono (by decide)) T.d__law_put.mgf T.d__law_put.fn.kp T.d__law_put.bd tk (ma_cons (me_var 0) (ma_cons (me_call (w__law_without T) (hr.mono (by decide)) T.d__law_without.mgf T.d__law_without.fn.kp T.d__law_without.bd tk (ma_cons (me_var 1) (ma_cons (me_var 4) ma_nil))) (ma_cons (me_var 4) ma_nil)))) (ma_cons (me_var 4) ma_nil)))) ma_nil)))))
      mb_nil)
    (mb_cons (ms_if (mt_cmp (op_eqD hr.units) os_eq (me_var 3) me_int (nomark _))
      (mb_one (ms_ret (me_call (w__law_plain T) (hr.mono (by decide)) T.d__law_plain.mgf T.d__law_plain.fn.kp T.d__law_plain.bd tk (ma_cons (me_op op_addAll os_add (me_var 1) (me_lst (ma_cons (me_ix ix_seq os_ix (me_var 1) (me_call (w__law_take T) (hr.mono (by decide)) T.d__law_take.mgf T.d__law_take.fn.kp T.d__law_take.bd tk (ma_cons (me_var 0) (ma_cons (me_callB cl_len cs_lenAll T.b_len (ma_cons (me_var 1) ma_nil)) ma_nil)))) ma_nil))) ma_nil))))
      mb_nil)
    (mb_cons (ms_if (mt_cmp (op_eqD hr.units) os_eq (me_var 3) me_int (nomark _))
      (mb_cons (ms_set (i := 5) sc__law_spoilt.nd rfl (.inl rfl) (me_call (w__law_take T) (hr.mono (by decide)) T.d__law_take.mgf T.d__law_take.fn.kp T.d__law_take.bd tk (ma_cons (me_var 0) (ma_cons (me_callB (call_min2 rfl) cs_min2 T.b_min (ma_cons (me_var 2) (ma_cons me_int ma_nil))) ma_nil))))
    (mb_one (ms_ret (me_call (w__law_plain T) (hr.mono (by decide)) T.d__law_plain.mgf T.d__law_plain.fn.kp T.d__law_plain.bd tk (ma_cons (me_call (w__law_put T) (hr.mono (by decide)) T.d__law_put.mgf T.d__law_put.fn.kp T.d__law_put.bd tk (ma_cons (me_var 0) (ma_cons (me_call (w__law_without T) (hr.mono (by decide)) T.d__law_without.mgf T.d__law_without.fn.kp T.d__law_without.bd tk (ma_cons (me_var 1) (ma_cons (me_var 5) ma_nil))) (ma_cons (me_cmp (op_eqD hr.units) os_eq (me_var 5) me_int (nomark _)) ma_nil)))) ma_nil)))))
      mb_nil)
    (mb_cons (ms_if (mt_cmp (op_eqD hr.units) os_eq (me_var 3) me_int (nomark _))
      (mb_cons (ms_set (i := 5) sc__law_spoilt.nd rfl (.inl rfl) (me_call (w__law_take T) (hr.mono (by decide)) T.d__law_take.mgf T.d__law_take.fn.kp T.d__law_take.bd tk (ma_cons (me_var 0) (ma_cons (me_var 2) ma_nil))))
    (mb_one (ms_ret (me_call (w__law_plain T) (hr.mono (by decide)) T.d__law_plain.mgf T.d__law_plain.fn.kp T.d__law_plain.bd tk (ma_cons (me_call (w__law_put T) (hr.mono (by decide)) T.d__law_put.mgf T.d__law_put.fn.kp T.d__law_put.bd tk (ma_cons (me_var 0) (ma_cons (me_call (w__law_without T) (hr.mono (by decide)) T.d__law_without.mgf T.d__law_without.fn.kp T.d__law_without.bd tk (ma_cons (me_var 1) (ma_cons (me_var 5) ma_nil))) (ma_cons (me_callTy call_str_int cs_str T.b_str (ma_cons (me_var 5) ma_nil)) ma_nil)))) ma_nil)))))
      mb_nil)
    (mb_cons (ms_if (mt_cmp (op_eqD hr.units) os_eq (me_var 3) me_int (nomark _))
      (mb_one (ms_ret (me_call (w__law_plain T) (hr.mono (by decide)) T.d__law_plain.mgf T.d__law_plain.fn.kp T.d__law_plain.bd tk (ma_cons (me_call (w__law_put T) (hr.mono (by decide)) T.d__law_put.mgf T.d__law_put.fn.kp T.d__law_put.bd tk (ma_cons (me_var 0) (ma_cons (me_var 1) (ma_cons (me_ix ix_seq os_ix (me_lst (ma_cons me_non (ma_cons (me_tup ma_nil) (ma_cons (me_tup (ma_cons me_int ma_nil)) (ma_cons me_str ma_nil))))) (me_call (w__law_take T) (hr.mono (by decide)) T.d__law_take.mgf T.d__law_take.fn.kp T.d__law_take.bd tk (ma_cons (me_var 0) (ma_cons me_int ma_nil)))) ma_nil)))) ma_nil))))
      mb_nil)
    (mb_cons (ms_set (i := 6) sc__law_spoilt.nd rfl (.inl rfl) (me_lst (ma_cons me_non (ma_cons me_bl (ma_cons me_int (ma_cons me_str (ma_cons me_str (ma_cons (me_tup (ma_cons me_int ma_nil)) (ma_cons (me_tup (ma_cons (me_tup (ma_cons me_int ma_nil)) (ma_cons me_int ma_nil))) (ma_cons (me_tup (ma_cons me_str ma_nil)) (ma_cons (me_tup (ma_cons (me_tup (ma_cons (me_tup (ma_cons me_int ma_nil)) ma_nil)) ma_nil)) (ma_cons me_str (ma_cons (me_tup (ma_cons me_non ma_nil)) ma_nil)))))))))))))
    (mb_one (ms_ret (me_ix ix_seq os_ix (me_var 6) (me_call (w__law_take T) (hr.mono (by decide)) T.d__law_take.mgf T.d__law_take.fn.kp T.d__law_take.bd tk (ma_cons (me_var 0) (ma_cons me_int ma_nil))))))))))))))))
theorem w__law_refused (T : Txt K mg) : FnOk P0 w K mg base (L2N.CX P0 w) 8 T.f__law_refused T.fd__law_refused ["odd", "size"] (spF K mg 2 c__law_refused) := by
  refine fn_ok (n := 3) (m := m__law_refused) T.d__law_refused.fn sc__law_refused rfl rfl fun cdv A outer s H E hr => ?_
  have tk : L2N.Takes (cxOf (L2N.CX P0 w) P0 w K mg base N__law_refused "_law_refused" (defScope s__law_refused) T.f__law_refused cdv A outer s H E) (fun cls d _ H => E cls d H) := L2N.takes_of rfl rfl rfl rfl
  have po := passes_of (X := cxOf (L2N.CX P0 w) P0 w K mg base N__law_refused "_law_refused" (defScope s__law_refused) T.f__law_refused cdv A outer s H E) rfl
  exact (mb_cons (ms_try (i := 2) (caught := fun c => ([("InvalidCycles", true)] : List (Str × Bool)).lookup c) rfl rfl rfl sc__law_refused.nd rfl rfl ⟨rfl, by decide, .inl T.my_TumblerError⟩ tk (fun c b Cl h hm => by
          rcases (caught_one h) with ⟨rfl, rfl⟩
          · obtain rfl : Cl = T.x_InvalidCycles := by
              have z := hm.symm.trans (T.e_InvalidCycles).mgx
              cases z; rfl
            exact T.ex_InvalidCycles_TumblerError) (fun W pn xe tk po => (mb_one (ms_expr (me_call (w_from_cycles T) (hr.mono (by decide)) T.d_from_cycles.mgf T.d_from_cycles.fn.kp T.d_from_cycles.bd tk (ma_cons (me_var 0) (ma_cons (me_var 1) ma_nil))))))
        (fun a oe Cl dd pn c fs hzn hf hm hc => by
          have hz := hzn.zc
          rcases (caught_one hc) with ⟨rfl, h⟩
          · obtain rfl : Cl = T.x_InvalidCycles := by
              have z := hm.symm.trans (T.e_InvalidCycles).mgx
              cases z; rfl
            rw [show th__law_refused_1 "InvalidCycles" fs = th__law_refused_1_InvalidCycles fs from if_pos rfl]
            exact (mb_one (ms_ret (me_and (me_isE hz hf (T.e_InvalidCycles).ec rfl (.inl rfl) T.b_isinstance (pe_glob (v := .ref T.y_InvalidCycles) (by rfl) T.my_InvalidCycles rfl) (fun u h => h) T.ki_InvalidCycles_InvalidCycles) (me_one (me_callH (wh__law_alike T) (roomQ_mark (hr.mono (by decide))) (hot_sui hzn hf) T.d__law_alike.mgf T.d__law_alike.fn.kp T.d__law_alike.bd (ma_cons (me_fld hz hf (T.e_InvalidCycles).xf (T.e_InvalidCycles).fl rfl (.inl rfl)) (ma_cons (me_var 0) ma_nil)))))))))
    (mb_one (ms_ret me_bl)))
theorem w_law (T : Txt K mg) : FnOk P0 w K mg base (L2N.CX P0 w) 9 T.f_law T.fd_law ["script"] (spF K mg 1 c_law) := by
  refine fn_ok (n := 10) (m := m_law) T.d_law.fn sc_law rfl rfl fun cdv A outer s H E hr => ?_
  have tk : L2N.Takes (cxOf (L2N.CX P0 w) P0 w K mg base N_law "law" (defScope s_law) T.f_law cdv A outer s H E) (fun cls d _ H => E cls d H) := L2N.takes_of rfl rfl rfl rfl
  have po := passes_of (X := cxOf (L2N.CX P0 w) P0 w K mg base N_law "law" (defScope s_law) T.f_law cdv A outer s H E) rfl
  exact (mb_cons (ms_set (i := 1) sc_law.nd rfl (.inl rfl) (me_call (w__law_bag T) (hr.mono (by decide)) T.d__law_bag.mgf T.d__law_bag.fn.kp T.d__law_bag.bd tk (ma_cons (me_var 0) ma_nil)))
    (mb_cons (ms_set (i := 2) sc_law.nd rfl (.inl rfl) (me_call (w__law_size T) (hr.mono (by decide)) T.d__law_size.mgf T.d__law_size.fn.kp T.d__law_size.bd tk (ma_cons (me_var 1) ma_nil)))
    (mb_cons (ms_set (i := 3) sc_law.nd rfl (.inl rfl) (me_call (w__law_perm T) (hr.mono (by decide)) T.d__law_perm.mgf T.d__law_perm.fn.kp T.d__law_perm.bd tk (ma_cons (me_var 1) (ma_cons (me_var 2) ma_nil))))
    (mb_cons (ms_set (i := 4) sc_law.nd rfl (.inr rfl) (me_call (w__law_perm T) (hr.mono (by decide)) T.d__law_perm.mgf T.d__law_perm.fn.kp T.d__law_perm.bd tk (ma_cons (me_var 1) (ma_cons (me_var 2) ma_nil))))
    (mb_cons (ms_set (i := 5) sc_law.nd rfl (.inl rfl) (me_callTy call_tuple_of cs_tuple T.b_tuple (ma_cons (me_lc rfl sc_law.nd (mi_val (me_var 3)) (blkOk_by (own := [("spot", 6)]) (by show blkC N_law (defScope s_law) _ _ = true; decide +kernel)) (fun _ _ _ _ _ => (mgc_var sc_law.nd rfl (.inl rfl) (by decide))) (fun _ _ _ _ _ => mts_nil) (fun _ _ _ _ _ => (me_ix ix_seq os_ix (me_var 4) (me_var 6)))) ma_nil)))
    (mb_cons (ms_set (i := 7) sc_law.nd rfl (.inl rfl) (me_and (me_call (w__law_described T) (hr.mono (by decide)) T.d__law_described.mgf T.d__law_described.fn.kp T.d__law_described.bd tk (ma_cons (me_var 3) ma_nil)) (me_and (me_call (w__law_described T) (hr.mono (by decide)) T.d__law_described.mgf T.d__law_described.fn.kp T.d__law_described.bd tk (ma_cons (me_var 4) ma_nil)) (me_one (me_call (w__law_described T) (hr.mono (by decide)) T.d__law_described.mgf T.d__law_described.fn.kp T.d__law_described.bd tk (ma_cons (me_var 5) ma_nil))))))
    (mb_cons (ms_set (i := 7) sc_law.nd rfl (.inl rfl) (me_and (me_var 7) (me_one (me_call (w__law_alike T) (hr.mono (by decide)) T.d__law_alike.mgf T.d__law_alike.fn.kp T.d__law_alike.bd tk (ma_cons (me_callK0 (pl := 1) (w_sign T) (hr.mono (by decide)) T.d_sign.mgf T.d_sign.fn.kp T.kb_5 tk (mk_cons (me_var 5) mk_nil) (by exact fun us ws h1 h2 => match us, ws, h1, h2 with | [], [_], _, _ => rfl)) (ma_cons (me_op op_mulA os_mulA (me_call (w__law_parity T) (hr.mono (by decide)) T.d__law_parity.mgf T.d__law_parity.fn.kp T.d__law_parity.bd tk (ma_cons (me_var 3) ma_nil)) (me_call (w__law_parity T) (hr.mono (by decide)) T.d__law_parity.mgf T.d__law_parity.fn.kp T.d__law_parity.bd tk (ma_cons (me_var 4) ma_nil))) ma_nil))))))
    (mb_cons (ms_set (i := 8) sc_law.nd rfl (.inl rfl) (me_call (w__law_turned T) (hr.mono (by decide)) T.d__law_turned.mgf T.d__law_turned.fn.kp T.d__law_turned.bd tk (ma_cons (me_var 1) (ma_cons (me_var 3) ma_nil))))
    (mb_cons (ms_set (i := 7) sc_law.nd rfl (.inl rfl) (me_and (me_var 7) (me_one (me_call (w__law_alike T) (hr.mono (by decide)) T.d__law_alike.mgf T.d__law_alike.fn.kp T.d__law_alike.bd tk (ma_cons (me_call (w_from_cycles T) (hr.mono (by decide)) T.d_from_cycles.mgf T.d_from_cycles.fn.kp T.d_from_cycles.bd tk (ma_cons (me_call (w__law_plain T) (hr.mono (by decide)) T.d__law_plain.mgf T.d__law_plain.fn.kp T.d__law_plain.bd tk (ma_cons (me_var 8) ma_nil)) (ma_cons (me_var 2) ma_nil))) (ma_cons (me_var 3) ma_nil))))))
    (mb_cons (ms_set (i := 8) sc_law.nd rfl (.inl rfl) (me_call (w__law_turned T) (hr.mono (by decide)) T.d__law_turned.mgf T.d__law_turned.fn.kp T.d__law_turned.bd tk (ma_cons (me_var 1) (ma_cons (me_var 5) ma_nil))))
    (mb_cons (ms_set (i := 7) sc_law.nd rfl (.inl rfl) (me_and (me_var 7) (me_one (me_call (w__law_alike T) (hr.mono (by decide)) T.d__law_alike.mgf T.d__law_alike.fn.kp T.d__law_alike.bd tk (ma_cons (me_callK0 (pl := 2) (w_from_cycles T) (hr.mono (by decide)) T.d_from_cycles.mgf T.d_from_cycles.fn.kp T.kb_6 tk (mk_cons (me_call (w__law_plain T) (hr.mono (by decide)) T.d__law_plain.mgf T.d__law_plain.fn.kp T.d__law_plain.bd tk (ma_cons (me_var 8) ma_nil)) (mk_cons (me_var 2) mk_nil)) (by exact fun us ws h1 h2 => match us, ws, h1, h2 with | [], [_, _], _, _ => rfl)) (ma_cons (me_var 5) ma_nil))))))
    (mb_cons (ms_for po rfl (mi_range1 T.b_range (ma_cons me_int ma_nil)) (mg_var sc_law.nd rfl (.inl rfl))
      (mb_one (ms_set (i := 7) sc_law.nd rfl (.inl rfl) (me_and (me_var 7) (me_one (me_call (w__law_refused T) (hr.mono (by decide)) T.d__law_refused.mgf T.d__law_refused.fn.kp T.d__law_refused.bd tk (ma_cons (me_call (w__law_spoilt T) (hr.mono (by decide)) T.d__law_spoilt.mgf T.d__law_spoilt.fn.kp T.d__law_spoilt.bd tk (ma_cons (me_var 1) (ma_cons (me_var 8) (ma_cons (me_var 2) ma_nil)))) (ma_cons (me_var 2) ma_nil))))))))
    (mb_one (ms_ret (me_var 7)))))))))))))))
end
end Law

set_option maxHeartbeats 4000000
/-! printed by mk.py: what the top leaves, the end -/
namespace Law
open PySem PySem.Spec PyProof.Rows L2 Rf
def clsInit : Stmt → Stmt
  | .ClassDef _ _ _ body _ _ _ _ _ _ _ => body.getD 0 (.Pass ⟨0,0,0,0⟩)
  | s => s
abbrev si_InvalidCycles : Stmt := clsInit (topS 3)
abbrev F_InvalidCycles (cc c : Addr) : NdefX.NF := ⟨"__init__", "InvalidCycles.__init__", defArgs si_InvalidCycles, defBody si_InvalidCycles, defScope si_InvalidCycles, [("__class__", cc)], c⟩
theorem init_InvalidCycles {K : PySem.W.Frag} {mg : Str → Option Value} {f cc c D : Addr} {doc pm ctv oc : Value} {od : Option Addr} {osl : Array (Option Value)} (lk : K.lookup f = some ⟨oc, od, .func ((F_InvalidCycles cc c).fd doc pm ctv), osl⟩) (W : SupK P0 K mg (F_InvalidCycles cc c) f cc D "self")
    (hno : PySem.W.nsIn K cStatics "thirdparty.any" = some none) (w : World) (base : Heap) (CX : CXT) : FnOk P0 w K mg base CX 1 f ((F_InvalidCycles cc c).fd doc pm ctv) ["self", "value"] (spX K D ["value"]) :=
  init1 lk W (show NdefX.NScope ["self", "value", "__class__"] ["self", "value"] ["__class__"] (defScope si_InvalidCycles) from NdefX.nscope_by (by decide +kernel)) hno rfl (fun _ => rfl) (fun _ => rfl) (fun _ => rfl) (fun _ => rfl) (by decide) (by decide) (by decide) (by decide)
theorem bd_InvalidCycles {K : PySem.W.Frag} {cc c : Addr} {doc pm ctv : Value} : Binds K ((F_InvalidCycles cc c).fd doc pm ctv) ["self", "value"] [] := .all fun us hl => match us, hl with | [_, _], _ => rfl
theorem txt_mk {K : PySem.W.Frag} {mg : Str → Option Value} {h : Heap} (X : K.In h) (G : h.Ns mainGlobals mg)
  {od0 od1 od2 od3 od4 od5 od6 od7 od8 od9 od10 od11 od12 od13 od14 od15 od16 od17 od18 od19 od20 od21 od22 od23 od24 od25 : Option Addr}
  {an0 an1 an2 an3 an4 an5 an6 an7 an8 an9 an10 an11 an12 an13 an14 an15 an16 an17 an18 an19 an20 an21 an22 an23 an24 an25 : Option Addr}
  {sl0 sl1 sl2 sl3 sl4 sl5 sl6 sl7 sl8 sl9 sl10 sl11 sl12 sl13 sl14 sl15 sl16 sl17 sl18 sl19 sl20 sl21 sl22 sl23 sl24 sl25 : Array (Option Value)}
  {oc0 kV0 dc0 pm0 cd0 ct0 oc1 kV1 dc1 pm1 cd1 ct1 oc2 kV2 dc2 pm2 cd2 ct2 oc3 kV3 dc3 pm3 cd3 ct3 oc4 dc4 pm4 cd4 ct4 oc5 kV5 dc5 pm5 cd5 ct5 oc6 kV6 dc6 pm6 cd6 ct6 oc7 kV7 dc7 pm7 cd7 ct7 oc8 kV8 dc8 pm8 cd8 ct8 oc9 kV9 dc9 pm9 cd9 ct9 oc10 kV10 dc10 pm10 cd10 ct10 oc11 kV11 dc11 pm11 cd11 ct11 oc12 kV12 dc12 pm12 cd12 ct12 oc13 kV13 dc13 pm13 cd13 ct13 oc14 kV14 dc14 pm14 cd14 ct14 oc15 kV15 dc15 pm15 cd15 ct15 oc16 kV16 dc16 pm16 cd16 ct16 oc17 kV17 dc17 pm17 cd17 ct17 oc18 kV18 dc18 pm18 cd18 ct18 oc19 kV19 dc19 pm19 cd19 ct19 oc20 kV20 dc20 pm20 cd20 ct20 oc21 kV21 dc21 pm21 cd21 ct21 oc22 kV22 dc22 pm22 cd22 ct22 oc23 kV23 dc23 pm23 cd23 ct23 oc24 kV24 dc24 pm24 cd24 ct24 oc25 kV25 dc25 pm25 cd25 ct25 : Value}
  {f0 f1 f2 f3 f4 f5 f6 f7 f8 f9 f10 f11 f12 f13 f14 f15 f16 f17 f18 f19 f20 f21 f22 f23 f24 f25 : Addr}
  {kD4 : Addr}
  {xE0 xI0 xN0 xC0 xD0 : Addr}
  {enm0 eqn0 efl0 : Str} {ebs0 ebm0 esb0 : List Value} {esn0 : List Str} {eab0 : Bool} {ecol0 : Option Bool} {edd0 ecd0 ecl0 eod0 : Option Addr} {ek00 ek10 ek20 ek30 ek50 : Option Value}
  {ecc0 ecv0 edo0 epm0 ect0 eoc0 : Value} {evs0 : Array Value} {ecs0 ecw0 eos0 : Array (Option Value)} {etf0 : Tok}
  {yA0 : Addr}
  {yA1 : Addr}
  (a0 : PySem.W.nsIn K mainGlobals "is_whole" = some (some (.ref f0))) (l0 : K.lookup f0 = some ⟨oc0, od0, .func (PySem.W.fnOf "is_whole" "is_whole" (defArgs s_is_whole) (defBody s_is_whole) (defScope s_is_whole) .none kV0 dc0 pm0 an0 cd0 ct0), sl0⟩) (c0 : PySem.W.codeIn K cd0 "is_whole" = true) (k0 : PySem.W.keepIn K (.ref f0) = true)
  (a1 : PySem.W.nsIn K mainGlobals "is_index" = some (some (.ref f1))) (l1 : K.lookup f1 = some ⟨oc1, od1, .func (PySem.W.fnOf "is_index" "is_index" (defArgs s_is_index) (defBody s_is_index) (defScope s_is_index) .none kV1 dc1 pm1 an1 cd1 ct1), sl1⟩) (c1 : PySem.W.codeIn K cd1 "is_index" = true) (k1 : PySem.W.keepIn K (.ref f1) = true)
  (a2 : PySem.W.nsIn K mainGlobals "identity" = some (some (.ref f2))) (l2 : K.lookup f2 = some ⟨oc2, od2, .func (PySem.W.fnOf "identity" "identity" (defArgs s_identity) (defBody s_identity) (defScope s_identity) .none kV2 dc2 pm2 an2 cd2 ct2), sl2⟩) (c2 : PySem.W.codeIn K cd2 "identity" = true) (k2 : PySem.W.keepIn K (.ref f2) = true)
  (a3 : PySem.W.nsIn K mainGlobals "cycle_at" = some (some (.ref f3))) (l3 : K.lookup f3 = some ⟨oc3, od3, .func (PySem.W.fnOf "cycle_at" "cycle_at" (defArgs s_cycle_at) (defBody s_cycle_at) (defScope s_cycle_at) .none kV3 dc3 pm3 an3 cd3 ct3), sl3⟩) (c3 : PySem.W.codeIn K cd3 "cycle_at" = true) (k3 : PySem.W.keepIn K (.ref f3) = true)
  (a4 : PySem.W.nsIn K mainGlobals "cycles_of" = some (some (.ref f4))) (l4 : K.lookup f4 = some ⟨oc4, od4, .func (PySem.W.fnOf "cycles_of" "cycles_of" (defArgs s_cycles_of) (defBody s_cycles_of) (defScope s_cycles_of) .none (.ref kD4) dc4 pm4 an4 cd4 ct4), sl4⟩) (c4 : PySem.W.codeIn K cd4 "cycles_of" = true) (k4 : PySem.W.keepIn K (.ref f4) = true)
  (a5 : PySem.W.nsIn K mainGlobals "shape_of" = some (some (.ref f5))) (l5 : K.lookup f5 = some ⟨oc5, od5, .func (PySem.W.fnOf "shape_of" "shape_of" (defArgs s_shape_of) (defBody s_shape_of) (defScope s_shape_of) .none kV5 dc5 pm5 an5 cd5 ct5), sl5⟩) (c5 : PySem.W.codeIn K cd5 "shape_of" = true) (k5 : PySem.W.keepIn K (.ref f5) = true)
  (a6 : PySem.W.nsIn K mainGlobals "period" = some (some (.ref f6))) (l6 : K.lookup f6 = some ⟨oc6, od6, .func (PySem.W.fnOf "period" "period" (defArgs s_period) (defBody s_period) (defScope s_period) .none kV6 dc6 pm6 an6 cd6 ct6), sl6⟩) (c6 : PySem.W.codeIn K cd6 "period" = true) (k6 : PySem.W.keepIn K (.ref f6) = true)
  (a7 : PySem.W.nsIn K mainGlobals "sign" = some (some (.ref f7))) (l7 : K.lookup f7 = some ⟨oc7, od7, .func (PySem.W.fnOf "sign" "sign" (defArgs s_sign) (defBody s_sign) (defScope s_sign) .none kV7 dc7 pm7 an7 cd7 ct7), sl7⟩) (c7 : PySem.W.codeIn K cd7 "sign" = true) (k7 : PySem.W.keepIn K (.ref f7) = true)
  (a8 : PySem.W.nsIn K mainGlobals "_are_cycles" = some (some (.ref f8))) (l8 : K.lookup f8 = some ⟨oc8, od8, .func (PySem.W.fnOf "_are_cycles" "_are_cycles" (defArgs s__are_cycles) (defBody s__are_cycles) (defScope s__are_cycles) .none kV8 dc8 pm8 an8 cd8 ct8), sl8⟩) (c8 : PySem.W.codeIn K cd8 "_are_cycles" = true) (k8 : PySem.W.keepIn K (.ref f8) = true)
  (a9 : PySem.W.nsIn K mainGlobals "from_cycles" = some (some (.ref f9))) (l9 : K.lookup f9 = some ⟨oc9, od9, .func (PySem.W.fnOf "from_cycles" "from_cycles" (defArgs s_from_cycles) (defBody s_from_cycles) (defScope s_from_cycles) .none kV9 dc9 pm9 an9 cd9 ct9), sl9⟩) (c9 : PySem.W.codeIn K cd9 "from_cycles" = true) (k9 : PySem.W.keepIn K (.ref f9) = true)
  (a10 : PySem.W.nsIn K mainGlobals "_law_bag" = some (some (.ref f10))) (l10 : K.lookup f10 = some ⟨oc10, od10, .func (PySem.W.fnOf "_law_bag" "_law_bag" (defArgs s__law_bag) (defBody s__law_bag) (defScope s__law_bag) .none kV10 dc10 pm10 an10 cd10 ct10), sl10⟩) (c10 : PySem.W.codeIn K cd10 "_law_bag" = true) (k10 : PySem.W.keepIn K (.ref f10) = true)
  (a11 : PySem.W.nsIn K mainGlobals "_law_take" = some (some (.ref f11))) (l11 : K.lookup f11 = some ⟨oc11, od11, .func (PySem.W.fnOf "_law_take" "_law_take" (defArgs s__law_take) (defBody s__law_take) (defScope s__law_take) .none kV11 dc11 pm11 an11 cd11 ct11), sl11⟩) (c11 : PySem.W.codeIn K cd11 "_law_take" = true) (k11 : PySem.W.keepIn K (.ref f11) = true)
  (a12 : PySem.W.nsIn K mainGlobals "_law_alike" = some (some (.ref f12))) (l12 : K.lookup f12 = some ⟨oc12, od12, .func (PySem.W.fnOf "_law_alike" "_law_alike" (defArgs s__law_alike) (defBody s__law_alike) (defScope s__law_alike) .none kV12 dc12 pm12 an12 cd12 ct12), sl12⟩) (c12 : PySem.W.codeIn K cd12 "_law_alike" = true) (k12 : PySem.W.keepIn K (.ref f12) = true)
  (a13 : PySem.W.nsIn K mainGlobals "_law_size" = some (some (.ref f13))) (l13 : K.lookup f13 = some ⟨oc13, od13, .func (PySem.W.fnOf "_law_size" "_law_size" (defArgs s__law_size) (defBody s__law_size) (defScope s__law_size) .none kV13 dc13 pm13 an13 cd13 ct13), sl13⟩) (c13 : PySem.W.codeIn K cd13 "_law_size" = true) (k13 : PySem.W.keepIn K (.ref f13) = true)
  (a14 : PySem.W.nsIn K mainGlobals "_law_perm" = some (some (.ref f14))) (l14 : K.lookup f14 = some ⟨oc14, od14, .func (PySem.W.fnOf "_law_perm" "_law_perm" (defArgs s__law_perm) (defBody s__law_perm) (defScope s__law_perm) .none kV14 dc14 pm14 an14 cd14 ct14), sl14⟩) (c14 : PySem.W.codeIn K cd14 "_law_perm" = true) (k14 : PySem.W.keepIn K (.ref f14) = true)
  (a15 : PySem.W.nsIn K mainGlobals "_law_laps" = some (some (.ref f15))) (l15 : K.lookup f15 = some ⟨oc15, od15, .func (PySem.W.fnOf "_law_laps" "_law_laps" (defArgs s__law_laps) (defBody s__law_laps) (defScope s__law_laps) .none kV15 dc15 pm15 an15 cd15 ct15), sl15⟩) (c15 : PySem.W.codeIn K cd15 "_law_laps" = true) (k15 : PySem.W.keepIn K (.ref f15) = true)
  (a16 : PySem.W.nsIn K mainGlobals "_law_parity" = some (some (.ref f16))) (l16 : K.lookup f16 = some ⟨oc16, od16, .func (PySem.W.fnOf "_law_parity" "_law_parity" (defArgs s__law_parity) (defBody s__law_parity) (defScope s__law_parity) .none kV16 dc16 pm16 an16 cd16 ct16), sl16⟩) (c16 : PySem.W.codeIn K cd16 "_law_parity" = true) (k16 : PySem.W.keepIn K (.ref f16) = true)
  (a17 : PySem.W.nsIn K mainGlobals "_law_period" = some (some (.ref f17))) (l17 : K.lookup f17 = some ⟨oc17, od17, .func (PySem.W.fnOf "_law_period" "_law_period" (defArgs s__law_period) (defBody s__law_period) (defScope s__law_period) .none kV17 dc17 pm17 an17 cd17 ct17), sl17⟩) (c17 : PySem.W.codeIn K cd17 "_law_period" = true) (k17 : PySem.W.keepIn K (.ref f17) = true)
  (a18 : PySem.W.nsIn K mainGlobals "_law_plain" = some (some (.ref f18))) (l18 : K.lookup f18 = some ⟨oc18, od18, .func (PySem.W.fnOf "_law_plain" "_law_plain" (defArgs s__law_plain) (defBody s__law_plain) (defScope s__law_plain) .none kV18 dc18 pm18 an18 cd18 ct18), sl18⟩) (c18 : PySem.W.codeIn K cd18 "_law_plain" = true) (k18 : PySem.W.keepIn K (.ref f18) = true)
  (a19 : PySem.W.nsIn K mainGlobals "_law_described" = some (some (.ref f19))) (l19 : K.lookup f19 = some ⟨oc19, od19, .func (PySem.W.fnOf "_law_described" "_law_described" (defArgs s__law_described) (defBody s__law_described) (defScope s__law_described) .none kV19 dc19 pm19 an19 cd19 ct19), sl19⟩) (c19 : PySem.W.codeIn K cd19 "_law_described" = true) (k19 : PySem.W.keepIn K (.ref f19) = true)
  (a20 : PySem.W.nsIn K mainGlobals "_law_turned" = some (some (.ref f20))) (l20 : K.lookup f20 = some ⟨oc20, od20, .func (PySem.W.fnOf "_law_turned" "_law_turned" (defArgs s__law_turned) (defBody s__law_turned) (defScope s__law_turned) .none kV20 dc20 pm20 an20 cd20 ct20), sl20⟩) (c20 : PySem.W.codeIn K cd20 "_law_turned" = true) (k20 : PySem.W.keepIn K (.ref f20) = true)
  (a21 : PySem.W.nsIn K mainGlobals "_law_put" = some (some (.ref f21))) (l21 : K.lookup f21 = some ⟨oc21, od21, .func (PySem.W.fnOf "_law_put" "_law_put" (defArgs s__law_put) (defBody s__law_put) (defScope s__law_put) .none kV21 dc21 pm21 an21 cd21 ct21), sl21⟩) (c21 : PySem.W.codeIn K cd21 "_law_put" = true) (k21 : PySem.W.keepIn K (.ref f21) = true)
  (a22 : PySem.W.nsIn K mainGlobals "_law_without" = some (some (.ref f22))) (l22 : K.lookup f22 = some ⟨oc22, od22, .func (PySem.W.fnOf "_law_without" "_law_without" (defArgs s__law_without) (defBody s__law_without) (defScope s__law_without) .none kV22 dc22 pm22 an22 cd22 ct22), sl22⟩) (c22 : PySem.W.codeIn K cd22 "_law_without" = true) (k22 : PySem.W.keepIn K (.ref f22) = true)
  (a23 : PySem.W.nsIn K mainGlobals "_law_spoilt" = some (some (.ref f23))) (l23 : K.lookup f23 = some ⟨oc23, od23, .func (PySem.W.fnOf "_law_spoilt" "_law_spoilt" (defArgs s__law_spoilt) (defBody s__law_spoilt) (defScope s__law_spoilt) .none kV23 dc23 pm23 an23 cd23 ct23), sl23⟩) (c23 : PySem.W.codeIn K cd23 "_law_spoilt" = true) (k23 : PySem.W.keepIn K (.ref f23) = true)
  (a24 : PySem.W.nsIn K mainGlobals "_law_refused" = some (some (.ref f24))) (l24 : K.lookup f24 = some ⟨oc24, od24, .func (PySem.W.fnOf "_law_refused" "_law_refused" (defArgs s__law_refused) (defBody s__law_refused) (defScope s__law_refused) .none kV24 dc24 pm24 an24 cd24 ct24), sl24⟩) (c24 : PySem.W.codeIn K cd24 "_law_refused" = true) (k24 : PySem.W.keepIn K (.ref f24) = true)
  (a25 : PySem.W.nsIn K mainGlobals "law" = some (some (.ref f25))) (l25 : K.lookup f25 = some ⟨oc25, od25, .func (PySem.W.fnOf "law" "law" (defArgs s_law) (defBody s_law) (defScope s_law) .none kV25 dc25 pm25 an25 cd25 ct25), sl25⟩) (c25 : PySem.W.codeIn K cd25 "law" = true) (k25 : PySem.W.keepIn K (.ref f25) = true)
  (z0 : PySem.W.nsIn K mainGlobals "int" = some none)
  (z1 : PySem.W.nsIn K mainGlobals "isinstance" = some none)
  (z2 : PySem.W.nsIn K mainGlobals "bool" = some none)
  (z3 : PySem.W.nsIn K mainGlobals "tuple" = some none)
  (z4 : PySem.W.nsIn K mainGlobals "range" = some none)
  (z5 : PySem.W.nsIn K mainGlobals "len" = some none)
  (z6 : PySem.W.nsIn K mainGlobals "sorted" = some none)
  (z7 : PySem.W.nsIn K mainGlobals "list" = some none)
  (z8 : PySem.W.nsIn K mainGlobals "enumerate" = some none)
  (z9 : PySem.W.nsIn K mainGlobals "all" = some none)
  (z10 : PySem.W.nsIn K mainGlobals "str" = some none)
  (z11 : PySem.W.nsIn K mainGlobals "min" = some none)
  (zm0 : PySem.W.nsIn K mainGlobals "lcm" = some (some (.builtin "math.lcm")))
  (kd4_0 : PySem.W.nsIn K kD4 "fixed" = some (some (Cn.u (.bl false))))
  (ea0 : PySem.W.nsIn K mainGlobals "InvalidCycles" = some (some (.ref xE0)))
  (eb0 : K.lookup xE0 = some (excClassObj enm0 eqn0 xE0 xN0 ebs0 ebm0 true esn0 esb0 eab0 ecol0 edd0 ek00 ek10 ek20 ek30 ek50 "ValueError.__new__"))
  (ec0 : PySem.HandSPX.refsVE ebm0 = true)
  (ed0 : PySem.W.findIn K (.ref xE0) "__setattr__" = some (some (.builtin "object.__setattr__")))
  (ee0 : PySem.W.subIn K (.ref xE0) (.type "BaseException") = some true)
  (ef0 : PySem.W.typeIn K (.ref xE0) = some (.type "type"))
  (eg0 : PySem.W.keepIn K (.ref xE0) = true)
  (eh0 : PySem.W.mroIn K xE0 (.ref xE0) = some true)
  (ei0 : PySem.W.ks_superIn K xE0 xE0 "__init__" = some (some (.builtin "ValueError.__init__")))
  (ej0 : PySem.W.subIn K (.ref xE0) (.type "ValueError") = some true)
  (ek0 : PySem.W.findIn K (.ref xE0) "value" = some none)
  (el0 : PySem.W.findIn K (.ref xE0) "__init__" = some (some (.ref xI0)))
  (em0 : PySem.W.typeIn K (.ref xI0) = some (.type "function"))
  (eu0 : K.lookup xI0 = some ⟨eoc0, eod0, .func ((F_InvalidCycles xC0 xD0).fd edo0 epm0 ect0), eos0⟩)
  (en0 : K.lookup xD0 = some ⟨ecc0, ecd0, .fields evs0, ecs0⟩)
  (eo0 : evs0[2]? = some (.str efl0 etf0))
  (ep0 : ((P0.main.file : Str) == efl0) = true)
  (eq0 : K.lookup xC0 = some ⟨ecv0, ecl0, .cell (some (.ref xE0)), ecw0⟩)
  (er0 : PySem.W.hasDictIn K xE0 = true)
  (es0 : PySem.W.codeIn K (.ref xD0) "InvalidCycles.__init__" = true)
  (et0 : PySem.W.nsIn K mainGlobals "super" = some none)
  (ev0 : PySem.W.nsIn K cStatics "thirdparty.any" = some none)
  (ew0 : PySem.W.findIn K (.ref xE0) "__getattribute__" = some (some (.builtin "BaseException.__getattribute__")))
  (ex0 : PySem.W.findIn K (.ref xE0) "__getattr__" = some none)
  (ey0 : PySem.W.findIn K (.ref xE0) "__class__" = some (some (.builtin "object.__class__")))
  (ez0 : PySem.W.specialIn K (.builtin "object.__class__") "__get__" = some (some (.builtin "getset_descriptor.__get__")))
  (eA0 : PySem.W.takesIn K (.builtin "object.__class__") = some true)
  (eB0 : PySem.W.mroIn K xE0 (.type "object") = some true)
  (ya0 : PySem.W.nsIn K mainGlobals "TumblerError" = some (some (.ref yA0)))
  (ya1 : PySem.W.nsIn K mainGlobals "InvalidCycles" = some (some (.ref yA1)))
  (pa0 : PySem.W.exmOne K (.ref xE0) (.ref yA0) = some true)
  (pb0 : PySem.W.kitOne K (.ref xE0) (.ref yA1) = some true) : ∃ T : Txt K mg, T.fd_law = (PySem.W.fnOf "law" "law" (defArgs s_law) (defBody s_law) (defScope s_law) .none kV25 dc25 pm25 an25 cd25 ct25) := by
  have F0 := fun_mk (st := s_is_whole) l0 c0 k0
  have B0 := F0.binds (ps := ["value"]) fun _ _ _ _ _ _ us hl => match us, hl with | [_], _ => rfl
  have F1 := fun_mk (st := s_is_index) l1 c1 k1
  have B1 := F1.binds (ps := ["value", "limit"]) fun _ _ _ _ _ _ us hl => match us, hl with | [_, _], _ => rfl
  have F2 := fun_mk (st := s_identity) l2 c2 k2
  have B2 := F2.binds (ps := ["points"]) fun _ _ _ _ _ _ us hl => match us, hl with | [_], _ => rfl
  have F3 := fun_mk (st := s_cycle_at) l3 c3 k3
  have B3 := F3.binds (ps := ["perm", "point"]) fun _ _ _ _ _ _ us hl => match us, hl with | [_, _], _ => rfl
  have F4 := fun_mk (st := s_cycles_of) l4 c4 k4
  have F5 := fun_mk (st := s_shape_of) l5 c5 k5
  have B5 := F5.binds (ps := ["perm"]) fun _ _ _ _ _ _ us hl => match us, hl with | [_], _ => rfl
  have F6 := fun_mk (st := s_period) l6 c6 k6
  have B6 := F6.binds (ps := ["perm"]) fun _ _ _ _ _ _ us hl => match us, hl with | [_], _ => rfl
  have F7 := fun_mk (st := s_sign) l7 c7 k7
  have B7 := F7.binds (ps := ["perm"]) fun _ _ _ _ _ _ us hl => match us, hl with | [_], _ => rfl
  have F8 := fun_mk (st := s__are_cycles) l8 c8 k8
  have B8 := F8.binds (ps := ["value", "points"]) fun _ _ _ _ _ _ us hl => match us, hl with | [_, _], _ => rfl
  have F9 := fun_mk (st := s_from_cycles) l9 c9 k9
  have B9 := F9.binds (ps := ["cycles", "points"]) fun _ _ _ _ _ _ us hl => match us, hl with | [_, _], _ => rfl
  have F10 := fun_mk (st := s__law_bag) l10 c10 k10
  have B10 := F10.binds (ps := ["script"]) fun _ _ _ _ _ _ us hl => match us, hl with | [_], _ => rfl
  have F11 := fun_mk (st := s__law_take) l11 c11 k11
  have B11 := F11.binds (ps := ["bag", "many"]) fun _ _ _ _ _ _ us hl => match us, hl with | [_, _], _ => rfl
  have F12 := fun_mk (st := s__law_alike) l12 c12 k12
  have B12 := F12.binds (ps := ["told", "due"]) fun _ _ _ _ _ _ us hl => match us, hl with | [_, _], _ => rfl
  have F13 := fun_mk (st := s__law_size) l13 c13 k13
  have B13 := F13.binds (ps := ["bag"]) fun _ _ _ _ _ _ us hl => match us, hl with | [_], _ => rfl
  have F14 := fun_mk (st := s__law_perm) l14 c14 k14
  have B14 := F14.binds (ps := ["bag", "size"]) fun _ _ _ _ _ _ us hl => match us, hl with | [_, _], _ => rfl
  have F15 := fun_mk (st := s__law_laps) l15 c15 k15
  have B15 := F15.binds (ps := ["row"]) fun _ _ _ _ _ _ us hl => match us, hl with | [_], _ => rfl
  have F16 := fun_mk (st := s__law_parity) l16 c16 k16
  have B16 := F16.binds (ps := ["row"]) fun _ _ _ _ _ _ us hl => match us, hl with | [_], _ => rfl
  have F17 := fun_mk (st := s__law_period) l17 c17 k17
  have B17 := F17.binds (ps := ["row"]) fun _ _ _ _ _ _ us hl => match us, hl with | [_], _ => rfl
  have F18 := fun_mk (st := s__law_plain) l18 c18 k18
  have B18 := F18.binds (ps := ["rows"]) fun _ _ _ _ _ _ us hl => match us, hl with | [_], _ => rfl
  have F19 := fun_mk (st := s__law_described) l19 c19 k19
  have B19 := F19.binds (ps := ["row"]) fun _ _ _ _ _ _ us hl => match us, hl with | [_], _ => rfl
  have F20 := fun_mk (st := s__law_turned) l20 c20 k20
  have B20 := F20.binds (ps := ["bag", "row"]) fun _ _ _ _ _ _ us hl => match us, hl with | [_, _], _ => rfl
  have F21 := fun_mk (st := s__law_put) l21 c21 k21
  have B21 := F21.binds (ps := ["bag", "rows", "thing"]) fun _ _ _ _ _ _ us hl => match us, hl with | [_, _, _], _ => rfl
  have F22 := fun_mk (st := s__law_without) l22 c22 k22
  have B22 := F22.binds (ps := ["rows", "number"]) fun _ _ _ _ _ _ us hl => match us, hl with | [_, _], _ => rfl
  have F23 := fun_mk (st := s__law_spoilt) l23 c23 k23
  have B23 := F23.binds (ps := ["bag", "rows", "size"]) fun _ _ _ _ _ _ us hl => match us, hl with | [_, _, _], _ => rfl
  have F24 := fun_mk (st := s__law_refused) l24 c24 k24
  have B24 := F24.binds (ps := ["odd", "size"]) fun _ _ _ _ _ _ us hl => match us, hl with | [_, _], _ => rfl
  have F25 := fun_mk (st := s_law) l25 c25 k25
  have B25 := F25.binds (ps := ["script"]) fun _ _ _ _ _ _ us hl => match us, hl with | [_], _ => rfl
  have SC0 := supC_of eb0 ec0 ed0 ee0 ef0 eg0 eh0 ei0 ej0
  have SK0 : SupK P0 K mg (F_InvalidCycles xC0 xD0) xI0 xC0 xE0 "self" := supK_of en0 eo0 ep0 eq0 er0 es0 (PySem.W.mg_none_of X G et0) rfl (by show (defScope si_InvalidCycles).names.lookup ("super" : Str) = _; decide +kernel) (by show (defScope si_InvalidCycles).names.lookup ("__class__" : Str) = _; decide +kernel) (by show (defScope si_InvalidCycles).names.lookup ("self" : Str) = _; decide +kernel) rfl (by decide +kernel)
  have EX0 := excC_of ew0 ex0 ee0 er0 ey0 ez0 eA0 eB0
  have EC0 : ErrC P0 K mg "InvalidCycles" xE0 xI0 ((F_InvalidCycles xC0 xD0).fd edo0 epm0 ect0) "self" "value" := ⟨PySem.W.mg_of X G ea0, SC0, ek0, el0, em0, bd_InvalidCycles, fun w base CX => init_InvalidCycles eu0 SK0 ev0 w base CX, EX0.1, EX0.2⟩
  exact ⟨⟨f0, _, ⟨F0, PySem.W.mg_of X G a0, B0⟩, f1, _, ⟨F1, PySem.W.mg_of X G a1, B1⟩, f2, _, ⟨F2, PySem.W.mg_of X G a2, B2⟩, f3, _, ⟨F3, PySem.W.mg_of X G a3, B3⟩, f4, _, ⟨F4, PySem.W.mg_of X G a4⟩, f5, _, ⟨F5, PySem.W.mg_of X G a5, B5⟩, f6, _, ⟨F6, PySem.W.mg_of X G a6, B6⟩, f7, _, ⟨F7, PySem.W.mg_of X G a7, B7⟩, f8, _, ⟨F8, PySem.W.mg_of X G a8, B8⟩, f9, _, ⟨F9, PySem.W.mg_of X G a9, B9⟩, f10, _, ⟨F10, PySem.W.mg_of X G a10, B10⟩, f11, _, ⟨F11, PySem.W.mg_of X G a11, B11⟩, f12, _, ⟨F12, PySem.W.mg_of X G a12, B12⟩, f13, _, ⟨F13, PySem.W.mg_of X G a13, B13⟩, f14, _, ⟨F14, PySem.W.mg_of X G a14, B14⟩, f15, _, ⟨F15, PySem.W.mg_of X G a15, B15⟩, f16, _, ⟨F16, PySem.W.mg_of X G a16, B16⟩, f17, _, ⟨F17, PySem.W.mg_of X G a17, B17⟩, f18, _, ⟨F18, PySem.W.mg_of X G a18, B18⟩, f19, _, ⟨F19, PySem.W.mg_of X G a19, B19⟩, f20, _, ⟨F20, PySem.W.mg_of X G a20, B20⟩, f21, _, ⟨F21, PySem.W.mg_of X G a21, B21⟩, f22, _, ⟨F22, PySem.W.mg_of X G a22, B22⟩, f23, _, ⟨F23, PySem.W.mg_of X G a23, B23⟩, f24, _, ⟨F24, PySem.W.mg_of X G a24, B24⟩, f25, _, ⟨F25, PySem.W.mg_of X G a25, B25⟩, PySem.W.mg_none_of X G z0, PySem.W.mg_none_of X G z1, PySem.W.mg_none_of X G z2, PySem.W.mg_none_of X G z3, PySem.W.mg_none_of X G z4, PySem.W.mg_none_of X G z5, PySem.W.mg_none_of X G z6, PySem.W.mg_none_of X G z7, PySem.W.mg_none_of X G z8, PySem.W.mg_none_of X G z9, PySem.W.mg_none_of X G z10, PySem.W.mg_none_of X G z11, PySem.W.mg_of X G zm0, xE0, xI0, _, EC0, yA0, PySem.W.mg_of X G ya0, yA1, PySem.W.mg_of X G ya1, pa0, pb0, ⟨fun s us ws X l1 l2 => match us, ws, l1, l2 with | [_], [_], _, _ => .of_eq rfl, fun r q => permK_Vals r q _⟩, ⟨fun s us ws X l1 l2 => match us, ws, l1, l2 with | [_], [], _, _ => BindsTo.of_looks fun M => KwChain.looks X (l := [("fixed", Cn.u (.bl false))]) (fun q hq => by simp only [List.mem_cons, List.not_mem_nil, or_false] at hq; rcases hq with rfl <;> first | exact kd4_0) ⟨_, _, _, _, _, _, rfl, rfl, rfl⟩, fun r q => Vals.app' (permK_Vals r q _) (Cn.vals _)⟩, ⟨fun s us ws X l1 l2 => match us, ws, l1, l2 with | [], [_, _], _, _ => .of_eq rfl, fun r q => permK_Vals r q _⟩, ⟨fun s us ws X l1 l2 => match us, ws, l1, l2 with | [], [_], _, _ => .of_eq rfl, fun r q => permK_Vals r q _⟩, ⟨fun s us ws X l1 l2 => match us, ws, l1, l2 with | [], [_], _, _ => .of_eq rfl, fun r q => permK_Vals r q _⟩, ⟨fun s us ws X l1 l2 => match us, ws, l1, l2 with | [], [_], _, _ => .of_eq rfl, fun r q => permK_Vals r q _⟩, ⟨fun s us ws X l1 l2 => match us, ws, l1, l2 with | [], [_, _], _, _ => .of_eq rfl, fun r q => permK_Vals r q _⟩⟩, rfl⟩
theorem all_mk {w : World} {K : PySem.W.Frag} {mg : Str → Option Value} {h : Heap} {fa : Addr} (X : K.In h) (G : h.Ns mainGlobals mg) (hfa : mg "law" = some (.ref fa))
  {od0 od1 od2 od3 od4 od5 od6 od7 od8 od9 od10 od11 od12 od13 od14 od15 od16 od17 od18 od19 od20 od21 od22 od23 od24 od25 : Option Addr}
  {an0 an1 an2 an3 an4 an5 an6 an7 an8 an9 an10 an11 an12 an13 an14 an15 an16 an17 an18 an19 an20 an21 an22 an23 an24 an25 : Option Addr}
  {sl0 sl1 sl2 sl3 sl4 sl5 sl6 sl7 sl8 sl9 sl10 sl11 sl12 sl13 sl14 sl15 sl16 sl17 sl18 sl19 sl20 sl21 sl22 sl23 sl24 sl25 : Array (Option Value)}
  {oc0 kV0 dc0 pm0 cd0 ct0 oc1 kV1 dc1 pm1 cd1 ct1 oc2 kV2 dc2 pm2 cd2 ct2 oc3 kV3 dc3 pm3 cd3 ct3 oc4 dc4 pm4 cd4 ct4 oc5 kV5 dc5 pm5 cd5 ct5 oc6 kV6 dc6 pm6 cd6 ct6 oc7 kV7 dc7 pm7 cd7 ct7 oc8 kV8 dc8 pm8 cd8 ct8 oc9 kV9 dc9 pm9 cd9 ct9 oc10 kV10 dc10 pm10 cd10 ct10 oc11 kV11 dc11 pm11 cd11 ct11 oc12 kV12 dc12 pm12 cd12 ct12 oc13 kV13 dc13 pm13 cd13 ct13 oc14 kV14 dc14 pm14 cd14 ct14 oc15 kV15 dc15 pm15 cd15 ct15 oc16 kV16 dc16 pm16 cd16 ct16 oc17 kV17 dc17 pm17 cd17 ct17 oc18 kV18 dc18 pm18 cd18 ct18 oc19 kV19 dc19 pm19 cd19 ct19 oc20 kV20 dc20 pm20 cd20 ct20 oc21 kV21 dc21 pm21 cd21 ct21 oc22 kV22 dc22 pm22 cd22 ct22 oc23 kV23 dc23 pm23 cd23 ct23 oc24 kV24 dc24 pm24 cd24 ct24 oc25 kV25 dc25 pm25 cd25 ct25 : Value}
  {f0 f1 f2 f3 f4 f5 f6 f7 f8 f9 f10 f11 f12 f13 f14 f15 f16 f17 f18 f19 f20 f21 f22 f23 f24 f25 : Addr}
  {kD4 : Addr}
  {xE0 xI0 xN0 xC0 xD0 : Addr}
  {enm0 eqn0 efl0 : Str} {ebs0 ebm0 esb0 : List Value} {esn0 : List Str} {eab0 : Bool} {ecol0 : Option Bool} {edd0 ecd0 ecl0 eod0 : Option Addr} {ek00 ek10 ek20 ek30 ek50 : Option Value}
  {ecc0 ecv0 edo0 epm0 ect0 eoc0 : Value} {evs0 : Array Value} {ecs0 ecw0 eos0 : Array (Option Value)} {etf0 : Tok}
  {yA0 : Addr}
  {yA1 : Addr}
  (a0 : PySem.W.nsIn K mainGlobals "is_whole" = some (some (.ref f0))) (l0 : K.lookup f0 = some ⟨oc0, od0, .func (PySem.W.fnOf "is_whole" "is_whole" (defArgs s_is_whole) (defBody s_is_whole) (defScope s_is_whole) .none kV0 dc0 pm0 an0 cd0 ct0), sl0⟩) (c0 : PySem.W.codeIn K cd0 "is_whole" = true) (k0 : PySem.W.keepIn K (.ref f0) = true)
  (a1 : PySem.W.nsIn K mainGlobals "is_index" = some (some (.ref f1))) (l1 : K.lookup f1 = some ⟨oc1, od1, .func (PySem.W.fnOf "is_index" "is_index" (defArgs s_is_index) (defBody s_is_index) (defScope s_is_index) .none kV1 dc1 pm1 an1 cd1 ct1), sl1⟩) (c1 : PySem.W.codeIn K cd1 "is_index" = true) (k1 : PySem.W.keepIn K (.ref f1) = true)
  (a2 : PySem.W.nsIn K mainGlobals "identity" = some (some (.ref f2))) (l2 : K.lookup f2 = some ⟨oc2, od2, .func (PySem.W.fnOf "identity" "identity" (defArgs s_identity) (defBody s_identity) (defScope s_identity) .none kV2 dc2 pm2 an2 cd2 ct2), sl2⟩) (c2 : PySem.W.codeIn K cd2 "identity" = true) (k2 : PySem.W.keepIn K (.ref f2) = true)
  (a3 : PySem.W.nsIn K mainGlobals "cycle_at" = some (some (.ref f3))) (l3 : K.lookup f3 = some ⟨oc3, od3, .func (PySem.W.fnOf "cycle_at" "cycle_at" (defArgs s_cycle_at) (defBody s_cycle_at) (defScope s_cycle_at) .none kV3 dc3 pm3 an3 cd3 ct3), sl3⟩) (c3 : PySem.W.codeIn K cd3 "cycle_at" = true) (k3 : PySem.W.keepIn K (.ref f3) = true)
  (a4 : PySem.W.nsIn K mainGlobals "cycles_of" = some (some (.ref f4))) (l4 : K.lookup f4 = some ⟨oc4, od4, .func (PySem.W.fnOf "cycles_of" "cycles_of" (defArgs s_cycles_of) (defBody s_cycles_of) (defScope s_cycles_of) .none (.ref kD4) dc4 pm4 an4 cd4 ct4), sl4⟩) (c4 : PySem.W.codeIn K cd4 "cycles_of" = true) (k4 : PySem.W.keepIn K (.ref f4) = true)
  (a5 : PySem.W.nsIn K mainGlobals "shape_of" = some (some (.ref f5))) (l5 : K.lookup f5 = some ⟨oc5, od5, .func (PySem.W.fnOf "shape_of" "shape_of" (defArgs s_shape_of) (defBody s_shape_of) (defScope s_shape_of) .none kV5 dc5 pm5 an5 cd5 ct5), sl5⟩) (c5 : PySem.W.codeIn K cd5 "shape_of" = true) (k5 : PySem.W.keepIn K (.ref f5) = true)
  (a6 : PySem.W.nsIn K mainGlobals "period" = some (some (.ref f6))) (l6 : K.lookup f6 = some ⟨oc6, od6, .func (PySem.W.fnOf "period" "period" (defArgs s_period) (defBody s_period) (defScope s_period) .none kV6 dc6 pm6 an6 cd6 ct6), sl6⟩) (c6 : PySem.W.codeIn K cd6 "period" = true) (k6 : PySem.W.keepIn K (.ref f6) = true)
  (a7 : PySem.W.nsIn K mainGlobals "sign" = some (some (.ref f7))) (l7 : K.lookup f7 = some ⟨oc7, od7, .func (PySem.W.fnOf "sign" "sign" (defArgs s_sign) (defBody s_sign) (defScope s_sign) .none kV7 dc7 pm7 an7 cd7 ct7), sl7⟩) (c7 : PySem.W.codeIn K cd7 "sign" = true) (k7 : PySem.W.keepIn K (.ref f7) = true)
  (a8 : PySem.W.nsIn K mainGlobals "_are_cycles" = some (some (.ref f8))) (l8 : K.lookup f8 = some ⟨oc8, od8, .func (PySem.W.fnOf "_are_cycles" "_are_cycles" (defArgs s__are_cycles) (defBody s__are_cycles) (defScope s__are_cycles) .none kV8 dc8 pm8 an8 cd8 ct8), sl8⟩) (c8 : PySem.W.codeIn K cd8 "_are_cycles" = true) (k8 : PySem.W.keepIn K (.ref f8) = true)
  (a9 : PySem.W.nsIn K mainGlobals "from_cycles" = some (some (.ref f9))) (l9 : K.lookup f9 = some ⟨oc9, od9, .func (PySem.W.fnOf "from_cycles" "from_cycles" (defArgs s_from_cycles) (defBody s_from_cycles) (defScope s_from_cycles) .none kV9 dc9 pm9 an9 cd9 ct9), sl9⟩) (c9 : PySem.W.codeIn K cd9 "from_cycles" = true) (k9 : PySem.W.keepIn K (.ref f9) = true)
  (a10 : PySem.W.nsIn K mainGlobals "_law_bag" = some (some (.ref f10))) (l10 : K.lookup f10 = some ⟨oc10, od10, .func (PySem.W.fnOf "_law_bag" "_law_bag" (defArgs s__law_bag) (defBody s__law_bag) (defScope s__law_bag) .none kV10 dc10 pm10 an10 cd10 ct10), sl10⟩) (c10 : PySem.W.codeIn K cd10 "_law_bag" = true) (k10 : PySem.W.keepIn K (.ref f10) = true)
  (a11 : PySem.W.nsIn K mainGlobals "_law_take" = some (some (.ref f11))) (l11 : K.lookup f11 = some ⟨oc11, od11, .func (PySem.W.fnOf "_law_take" "_law_take" (defArgs s__law_take) (defBody s__law_take) (defScope s__law_take) .none kV11 dc11 pm11 an11 cd11 ct11), sl11⟩) (c11 : PySem.W.codeIn K cd11 "_law_take" = true) (k11 : PySem.W.keepIn K (.ref f11) = true)
  (a12 : PySem.W.nsIn K mainGlobals "_law_alike" = some (some (.ref f12))) (l12 : K.lookup f12 = some ⟨oc12, od12, .func (PySem.W.fnOf "_law_alike" "_law_alike" (defArgs s__law_alike) (defBody s__law_alike) (defScope s__law_alike) .none kV12 dc12 pm12 an12 cd12 ct12), sl12⟩) (c12 : PySem.W.codeIn K cd12 "_law_alike" = true) (k12 : PySem.W.keepIn K (.ref f12) = true)
  (a13 : PySem.W.nsIn K mainGlobals "_law_size" = some (some (.ref f13))) (l13 : K.lookup f13 = some ⟨oc13, od13, .func (PySem.W.fnOf "_law_size" "_law_size" (defArgs s__law_size) (defBody s__law_size) (defScope s__law_size) .none kV13 dc13 pm13 an13 cd13 ct13), sl13⟩) (c13 : PySem.W.codeIn K cd13 "_law_size" = true) (k13 : PySem.W.keepIn K (.ref f13) = true)
  (a14 : PySem.W.nsIn K mainGlobals "_law_perm" = some (some (.ref f14))) (l14 : K.lookup f14 = some ⟨oc14, od14, .func (PySem.W.fnOf "_law_perm" "_law_perm" (defArgs s__law_perm) (defBody s__law_perm) (defScope s__law_perm) .none kV14 dc14 pm14 an14 cd14 ct14), sl14⟩) (c14 : PySem.W.codeIn K cd14 "_law_perm" = true) (k14 : PySem.W.keepIn K (.ref f14) = true)
  (a15 : PySem.W.nsIn K mainGlobals "_law_laps" = some (some (.ref f15))) (l15 : K.lookup f15 = some ⟨oc15, od15, .func (PySem.W.fnOf "_law_laps" "_law_laps" (defArgs s__law_laps) (defBody s__law_laps) (defScope s__law_laps) .none kV15 dc15 pm15 an15 cd15 ct15), sl15⟩) (c15 : PySem.W.codeIn K cd15 "_law_laps" = true) (k15 : PySem.W.keepIn K (.ref f15) = true)
  (a16 : PySem.W.nsIn K mainGlobals "_law_parity" = some (some (.ref f16))) (l16 : K.lookup f16 = some ⟨oc16, od16, .func (PySem.W.fnOf "_law_parity" "_law_parity" (defArgs s__law_parity) (defBody s__law_parity) (defScope s__law_parity) .none kV16 dc16 pm16 an16 cd16 ct16), sl16⟩) (c16 : PySem.W.codeIn K cd16 "_law_parity" = true) (k16 : PySem.W.keepIn K (.ref f16) = true)
  (a17 : PySem.W.nsIn K mainGlobals "_law_period" = some (some (.ref f17))) (l17 : K.lookup f17 = some ⟨oc17, od17, .func (PySem.W.fnOf "_law_period" "_law_period" (defArgs s__law_period) (defBody s__law_period) (defScope s__law_period) .none kV17 dc17 pm17 an17 cd17 ct17), sl17⟩) (c17 : PySem.W.codeIn K cd17 "_law_period" = true) (k17 : PySem.W.keepIn K (.ref f17) = true)
  (a18 : PySem.W.nsIn K mainGlobals "_law_plain" = some (some (.ref f18))) (l18 : K.lookup f18 = some ⟨oc18, od18, .func (PySem.W.fnOf "_law_plain" "_law_plain" (defArgs s__law_plain) (defBody s__law_plain) (defScope s__law_plain) .none kV18 dc18 pm18 an18 cd18 ct18), sl18⟩) (c18 : PySem.W.codeIn K cd18 "_law_plain" = true) (k18 : PySem.W.keepIn K (.ref f18) = true)
  (a19 : PySem.W.nsIn K mainGlobals "_law_described" = some (some (.ref f19))) (l19 : K.lookup f19 = some ⟨oc19, od19, .func (PySem.W.fnOf "_law_described" "_law_described" (defArgs s__law_described) (defBody s__law_described) (defScope s__law_described) .none kV19 dc19 pm19 an19 cd19 ct19), sl19⟩) (c19 : PySem.W.codeIn K cd19 "_law_described" = true) (k19 : PySem.W.keepIn K (.ref f19) = true)
  (a20 : PySem.W.nsIn K mainGlobals "_law_turned" = some (some (.ref f20))) (l20 : K.lookup f20 = some ⟨oc20, od20, .func (PySem.W.fnOf "_law_turned" "_law_turned" (defArgs s__law_turned) (defBody s__law_turned) (defScope s__law_turned) .none kV20 dc20 pm20 an20 cd20 ct20), sl20⟩) (c20 : PySem.W.codeIn K cd20 "_law_turned" = true) (k20 : PySem.W.keepIn K (.ref f20) = true)
  (a21 : PySem.W.nsIn K mainGlobals "_law_put" = some (some (.ref f21))) (l21 : K.lookup f21 = some ⟨oc21, od21, .func (PySem.W.fnOf "_law_put" "_law_put" (defArgs s__law_put) (defBody s__law_put) (defScope s__law_put) .none kV21 dc21 pm21 an21 cd21 ct21), sl21⟩) (c21 : PySem.W.codeIn K cd21 "_law_put" = true) (k21 : PySem.W.keepIn K (.ref f21) = true)
  (a22 : PySem.W.nsIn K mainGlobals "_law_without" = some (some (.ref f22))) (l22 : K.lookup f22 = some ⟨oc22, od22, .func (PySem.W.fnOf "_law_without" "_law_without" (defArgs s__law_without) (defBody s__law_without) (defScope s__law_without) .none kV22 dc22 pm22 an22 cd22 ct22), sl22⟩) (c22 : PySem.W.codeIn K cd22 "_law_without" = true) (k22 : PySem.W.keepIn K (.ref f22) = true)
  (a23 : PySem.W.nsIn K mainGlobals "_law_spoilt" = some (some (.ref f23))) (l23 : K.lookup f23 = some ⟨oc23, od23, .func (PySem.W.fnOf "_law_spoilt" "_law_spoilt" (defArgs s__law_spoilt) (defBody s__law_spoilt) (defScope s__law_spoilt) .none kV23 dc23 pm23 an23 cd23 ct23), sl23⟩) (c23 : PySem.W.codeIn K cd23 "_law_spoilt" = true) (k23 : PySem.W.keepIn K (.ref f23) = true)
  (a24 : PySem.W.nsIn K mainGlobals "_law_refused" = some (some (.ref f24))) (l24 : K.lookup f24 = some ⟨oc24, od24, .func (PySem.W.fnOf "_law_refused" "_law_refused" (defArgs s__law_refused) (defBody s__law_refused) (defScope s__law_refused) .none kV24 dc24 pm24 an24 cd24 ct24), sl24⟩) (c24 : PySem.W.codeIn K cd24 "_law_refused" = true) (k24 : PySem.W.keepIn K (.ref f24) = true)
  (a25 : PySem.W.nsIn K mainGlobals "law" = some (some (.ref f25))) (l25 : K.lookup f25 = some ⟨oc25, od25, .func (PySem.W.fnOf "law" "law" (defArgs s_law) (defBody s_law) (defScope s_law) .none kV25 dc25 pm25 an25 cd25 ct25), sl25⟩) (c25 : PySem.W.codeIn K cd25 "law" = true) (k25 : PySem.W.keepIn K (.ref f25) = true)
  (z0 : PySem.W.nsIn K mainGlobals "int" = some none)
  (z1 : PySem.W.nsIn K mainGlobals "isinstance" = some none)
  (z2 : PySem.W.nsIn K mainGlobals "bool" = some none)
  (z3 : PySem.W.nsIn K mainGlobals "tuple" = some none)
  (z4 : PySem.W.nsIn K mainGlobals "range" = some none)
  (z5 : PySem.W.nsIn K mainGlobals "len" = some none)
  (z6 : PySem.W.nsIn K mainGlobals "sorted" = some none)
  (z7 : PySem.W.nsIn K mainGlobals "list" = some none)
  (z8 : PySem.W.nsIn K mainGlobals "enumerate" = some none)
  (z9 : PySem.W.nsIn K mainGlobals "all" = some none)
  (z10 : PySem.W.nsIn K mainGlobals "str" = some none)
  (z11 : PySem.W.nsIn K mainGlobals "min" = some none)
  (zm0 : PySem.W.nsIn K mainGlobals "lcm" = some (some (.builtin "math.lcm")))
  (kd4_0 : PySem.W.nsIn K kD4 "fixed" = some (some (Cn.u (.bl false))))
  (ea0 : PySem.W.nsIn K mainGlobals "InvalidCycles" = some (some (.ref xE0)))
  (eb0 : K.lookup xE0 = some (excClassObj enm0 eqn0 xE0 xN0 ebs0 ebm0 true esn0 esb0 eab0 ecol0 edd0 ek00 ek10 ek20 ek30 ek50 "ValueError.__new__"))
  (ec0 : PySem.HandSPX.refsVE ebm0 = true)
  (ed0 : PySem.W.findIn K (.ref xE0) "__setattr__" = some (some (.builtin "object.__setattr__")))
  (ee0 : PySem.W.subIn K (.ref xE0) (.type "BaseException") = some true)
  (ef0 : PySem.W.typeIn K (.ref xE0) = some (.type "type"))
  (eg0 : PySem.W.keepIn K (.ref xE0) = true)
  (eh0 : PySem.W.mroIn K xE0 (.ref xE0) = some true)
  (ei0 : PySem.W.ks_superIn K xE0 xE0 "__init__" = some (some (.builtin "ValueError.__init__")))
  (ej0 : PySem.W.subIn K (.ref xE0) (.type "ValueError") = some true)
  (ek0 : PySem.W.findIn K (.ref xE0) "value" = some none)
  (el0 : PySem.W.findIn K (.ref xE0) "__init__" = some (some (.ref xI0)))
  (em0 : PySem.W.typeIn K (.ref xI0) = some (.type "function"))
  (eu0 : K.lookup xI0 = some ⟨eoc0, eod0, .func ((F_InvalidCycles xC0 xD0).fd edo0 epm0 ect0), eos0⟩)
  (en0 : K.lookup xD0 = some ⟨ecc0, ecd0, .fields evs0, ecs0⟩)
  (eo0 : evs0[2]? = some (.str efl0 etf0))
  (ep0 : ((P0.main.file : Str) == efl0) = true)
  (eq0 : K.lookup xC0 = some ⟨ecv0, ecl0, .cell (some (.ref xE0)), ecw0⟩)
  (er0 : PySem.W.hasDictIn K xE0 = true)
  (es0 : PySem.W.codeIn K (.ref xD0) "InvalidCycles.__init__" = true)
  (et0 : PySem.W.nsIn K mainGlobals "super" = some none)
  (ev0 : PySem.W.nsIn K cStatics "thirdparty.any" = some none)
  (ew0 : PySem.W.findIn K (.ref xE0) "__getattribute__" = some (some (.builtin "BaseException.__getattribute__")))
  (ex0 : PySem.W.findIn K (.ref xE0) "__getattr__" = some none)
  (ey0 : PySem.W.findIn K (.ref xE0) "__class__" = some (some (.builtin "object.__class__")))
  (ez0 : PySem.W.specialIn K (.builtin "object.__class__") "__get__" = some (some (.builtin "getset_descriptor.__get__")))
  (eA0 : PySem.W.takesIn K (.builtin "object.__class__") = some true)
  (eB0 : PySem.W.mroIn K xE0 (.type "object") = some true)
  (ya0 : PySem.W.nsIn K mainGlobals "TumblerError" = some (some (.ref yA0)))
  (ya1 : PySem.W.nsIn K mainGlobals "InvalidCycles" = some (some (.ref yA1)))
  (pa0 : PySem.W.exmOne K (.ref xE0) (.ref yA0) = some true)
  (pb0 : PySem.W.kitOne K (.ref xE0) (.ref yA1) = some true) :
  ∃ fd : FuncData, (∀ (s : Shared) (v : Value), BindsTo s fd ⟨[v], []⟩ [("script", v)]) ∧ ∀ base : Heap, K.In base → base.Ns mainGlobals mg → FnOk PySem.Challenge.rw_tumbler_k01_cycles_and_signs.prog w K mg base (L2N.CX PySem.Challenge.rw_tumbler_k01_cycles_and_signs.prog w) 9 fa fd ["script"] (spLaw K c_law) := by
  obtain ⟨T, eT⟩ := txt_mk X G a0 l0 c0 k0 a1 l1 c1 k1 a2 l2 c2 k2 a3 l3 c3 k3 a4 l4 c4 k4 a5 l5 c5 k5 a6 l6 c6 k6 a7 l7 c7 k7 a8 l8 c8 k8 a9 l9 c9 k9 a10 l10 c10 k10 a11 l11 c11 k11 a12 l12 c12 k12 a13 l13 c13 k13 a14 l14 c14 k14 a15 l15 c15 k15 a16 l16 c16 k16 a17 l17 c17 k17 a18 l18 c18 k18 a19 l19 c19 k19 a20 l20 c20 k20 a21 l21 c21 k21 a22 l22 c22 k22 a23 l23 c23 k23 a24 l24 c24 k24 a25 l25 c25 k25 z0 z1 z2 z3 z4 z5 z6 z7 z8 z9 z10 z11 zm0 kd4_0 ea0 eb0 ec0 ed0 ee0 ef0 eg0 eh0 ei0 ej0 ek0 el0 em0 eu0 en0 eo0 ep0 eq0 er0 es0 et0 ev0 ew0 ex0 ey0 ez0 eA0 eB0 ya0 ya1 pa0 pb0
  have e := hfa.symm.trans T.d_law.mgf
  obtain rfl : fa = T.f_law := by cases e; rfl
  refine ⟨T.fd_law, fun s v => by rw [eT]; exact .of_eq rfl, fun base _ _ => (w_law T).imp fun vs H Q E q => spLaw.of vs H Q E q⟩
end Law

set_option maxHeartbeats 1000000
/-! Reckoning with the plain functions: what simp is to know, loops by invariants, what a call leaves. -/
namespace Rf
open PySem L2

/-! ### pieces -/
@[simp] theorem then_ok (d : D) (h : AH) (f : D → AH → ER) : (ER.ok d h).then f = f d h := rfl
@[simp] theorem then_exc (c : Str) (fs : List (Str × D)) (h : AH) (f : D → AH → ER) : (ER.exc c fs h).then f = .exc c fs h := rfl
@[simp] theorem thenS_ok (d : D) (h : AH) (e : AE) (f : D → AH → SR) : (ER.ok d h).thenS e f = f d h := rfl
@[simp] theorem thenS_exc (c : Str) (fs : List (Str × D)) (h : AH) (e : AE) (f : D → AH → SR) : (ER.exc c fs h).thenS e f = .exc c fs e h := rfl
@[simp] theorem lthen_ok (ds : List D) (h : AH) (f : List D → AH → ER) : (LR.ok ds h).then f = f ds h := rfl
@[simp] theorem lthen_exc (c : Str) (fs : List (Str × D)) (h : AH) (f : List D → AH → ER) : (LR.exc c fs h).then f = .exc c fs h := rfl
@[simp] theorem sthen_nx (e : AE) (h : AH) (f : SM) : (SR.nx e h).then f = f e h := rfl
@[simp] theorem sthen_rt (d : D) (h : AH) (f : SM) : (SR.rt d h).then f = .rt d h := rfl
@[simp] theorem sthen_bk (e : AE) (h : AH) (f : SM) : (SR.bk e h).then f = .bk e h := rfl
@[simp] theorem sthen_ct (e : AE) (h : AH) (f : SM) : (SR.ct e h).then f = .ct e h := rfl
@[simp] theorem sthen_exc (c : Str) (fs : List (Str × D)) (e : AE) (h : AH) (f : SM) : (SR.exc c fs e h).then f = .exc c fs e h := rfl
@[simp] theorem onlyNx_nx (e : AE) (h : AH) : onlyNx (.nx e h) = .nx e h := rfl
@[simp] theorem again_nx (e : AE) (h : AH) (k : SM) : again (.nx e h) k = k e h := rfl
@[simp] theorem again_ct (e : AE) (h : AH) (k : SM) : again (.ct e h) k = k e h := rfl
@[simp] theorem again_bk (e : AE) (h : AH) (k : SM) : again (.bk e h) k = .nx e h := rfl
@[simp] theorem again_rt (d : D) (h : AH) (k : SM) : again (.rt d h) k = .rt d h := rfl
@[simp] theorem again_exc (c : Str) (fs : List (Str × D)) (e : AE) (h : AH) (k : SM) : again (.exc c fs e h) k = .exc c fs e h := rfl
@[simp] theorem outS_rt (d : D) (h : AH) : outS (.rt d h) = .ok d h := rfl
@[simp] theorem outS_nx (e : AE) (h : AH) : outS (.nx e h) = .ok .non h := rfl
@[simp] theorem outS_exc (c : Str) (fs : List (Str × D)) (e : AE) (h : AH) : outS (.exc c fs e h) = .exc c fs h := rfl
/-- by a bool -/
def onB (d : D) (x y : SR) : SR := match d with
  | .bl true => x
  | .bl false => y
  | _ => .stuck
@[simp] theorem onB_bl (b : Bool) (x y : SR) : onB (.bl b) x y = if b = true then x else y := by cases b <;> rfl
def onE (d : D) (x y : ER) : ER := match d with
  | .bl true => x
  | .bl false => y
  | _ => .stuck
@[simp] theorem onE_bl (b : Bool) (x y : ER) : onE (.bl b) x y = if b = true then x else y := by cases b <;> rfl
@[simp] theorem eVar_ (i : Nat) (env : AE) (h : AH) : eVar i env h = match env[i]? with | some (some d) => .ok d h | _ => .stuck := rfl
@[simp] theorem eC_ (d : D) (env : AE) (h : AH) : eC d env h = .ok d h := rfl
@[simp] theorem eOp_ (g : D → D → AH → ER) (a b : EM) (env : AE) (h : AH) : eOp g a b env h = (a env h).then fun d1 h1 => (b env h1).then fun d2 h2 => g d1 d2 h2 := rfl
@[simp] theorem eUn_ (g : D → AH → ER) (a : EM) (env : AE) (h : AH) : eUn g a env h = (a env h).then fun d1 h1 => g d1 h1 := rfl
@[simp] theorem eIf_ (c a b : EM) (env : AE) (h : AH) : eIf c a b env h = (c env h).then fun d h1 => onE d (a env h1) (b env h1) := by
  unfold eIf ER.then onE
  cases c env h with
  | ok d h1 => cases d with
    | bl b => cases b <;> rfl
    | _ => rfl
  | _ => rfl
@[simp] theorem eAnd_ (a b : EM) (env : AE) (h : AH) : eAnd a b env h = (a env h).then fun d h1 => onE d (b env h1) (.ok (.bl false) h1) := by
  unfold eAnd ER.then onE
  cases a env h with
  | ok d h1 => cases d with
    | bl b => cases b <;> rfl
    | _ => rfl
  | _ => rfl
@[simp] theorem eOr_ (a b : EM) (env : AE) (h : AH) : eOr a b env h = (a env h).then fun d h1 => onE d (.ok (.bl true) h1) (b env h1) := by
  unfold eOr ER.then onE
  cases a env h with
  | ok d h1 => cases d with
    | bl b => cases b <;> rfl
    | _ => rfl
  | _ => rfl
def notD (d : D) (h : AH) : ER := match d with
  | .bl b => .ok (.bl (!b)) h
  | _ => .stuck
@[simp] theorem notD_bl (b : Bool) (h : AH) : notD (.bl b) h = .ok (.bl (!b)) h := rfl
@[simp] theorem eNot_ (a : EM) (env : AE) (h : AH) : eNot a env h = (a env h).then notD := by
  unfold eNot ER.then notD
  cases a env h with
  | ok d h1 => cases d <;> rfl
  | _ => rfl
@[simp] theorem lNil_ (env : AE) (h : AH) : lNil env h = .ok [] h := rfl
def LR.cons (d : D) (l : LR) : LR := match l with
  | .ok ds h => .ok (d :: ds) h
  | .exc c fs h => .exc c fs h
  | .stuck => .stuck
@[simp] theorem lrcons_ok (d : D) (ds : List D) (h : AH) : LR.cons d (.ok ds h) = .ok (d :: ds) h := rfl
@[simp] theorem lrcons_exc (d : D) (c : Str) (fs : List (Str × D)) (h : AH) : LR.cons d (.exc c fs h) = .exc c fs h := rfl
def ER.thenL (o : ER) (f : D → AH → LR) : LR := match o with
  | .ok d h => f d h
  | .exc c fs h => .exc c fs h
  | .stuck => .stuck
@[simp] theorem thenL_ok (d : D) (h : AH) (f : D → AH → LR) : (ER.ok d h).thenL f = f d h := rfl
@[simp] theorem thenL_exc (c : Str) (fs : List (Str × D)) (h : AH) (f : D → AH → LR) : (ER.exc c fs h).thenL f = .exc c fs h := rfl
@[simp] theorem lCons_ (a : EM) (r : LM) (env : AE) (h : AH) : lCons a r env h = (a env h).thenL fun d h1 => LR.cons d (r env h1) := by
  unfold lCons ER.thenL LR.cons
  cases a env h with
  | ok d h1 => rfl
  | _ => rfl
@[simp] theorem eCall_ (g : List D → AH → ER) (a : LM) (env : AE) (h : AH) : eCall g a env h = (a env h).then g := rfl
@[simp] theorem argn_ok (n : Nat) (F : List D → AH → ER) (ds : List D) (h : AH) (e : ds.length = n) : argn n F ds h = F ds h := if_pos e
@[simp] theorem eTup_ (l : LM) (env : AE) (h : AH) : eTup l env h = (l env h).then fun ds h1 => if Fits ds.length then .ok (.tup ds) h1 else .stuck := rfl
@[simp] theorem eLst_ (l : LM) (env : AE) (h : AH) : eLst l env h = (l env h).then fun ds h1 => if Fits ds.length then .ok (.ref h1.length) (h1 ++ [.lst ds]) else .stuck := rfl
@[simp] theorem eMeth_ (T : String) (g : D → List D → AH → ER) (o : EM) (l : LM) (env : AE) (h : AH) : eMeth T g o l env h = (o env h).then fun d h1 => if tyOk h1 T d then (l env h1).then fun ds h2 => g d ds h2 else .stuck := rfl
@[simp] theorem sPass_ (e : AE) (h : AH) : sPass e h = .nx e h := rfl
@[simp] theorem sSeq_ (a b : SM) (e : AE) (h : AH) : sSeq a b e h = (a e h).then b := rfl
@[simp] theorem sRet_ (m : EM) (e : AE) (h : AH) : sRet m e h = (m e h).thenS e fun d h1 => .rt d h1 := rfl
@[simp] theorem sRetN_ (e : AE) (h : AH) : sRetN e h = .rt .non h := rfl
@[simp] theorem sExpr_ (m : EM) (e : AE) (h : AH) : sExpr m e h = (m e h).thenS e fun _ h1 => .nx e h1 := rfl
@[simp] theorem sIf_ (c : EM) (a b : SM) (e : AE) (h : AH) : sIf c a b e h = (c e h).thenS e fun d h1 => onB d (a e h1) (b e h1) := by
  unfold sIf ER.thenS onB
  cases c e h with
  | ok d h1 => cases d with
    | bl b => cases b <;> rfl
    | _ => rfl
  | _ => rfl
@[simp] theorem sBreak_ (e : AE) (h : AH) : sBreak e h = .bk e h := rfl
@[simp] theorem sCont_ (e : AE) (h : AH) : sCont e h = .ct e h := rfl
@[simp] theorem sSet_ (i : Nat) (m : EM) (e : AE) (h : AH) : sSet i m e h = (m e h).thenS e fun d h1 => .nx (e.set i (some d)) h1 := rfl
@[simp] theorem sAsg_ (m : EM) (g : GM) (e : AE) (h : AH) : sAsg m g e h = (m e h).thenS e fun d h1 => g d e h1 := rfl
@[simp] theorem gVar_ (i : Nat) (d : D) (e : AE) (h : AH) : gVar i d e h = .nx (e.set i (some d)) h := rfl
@[simp] theorem gNils_ (e : AE) (h : AH) : gNils [] e h = .nx e h := rfl
@[simp] theorem gCons_ (g : GM) (r : List D → AE → AH → SR) (d : D) (ds : List D) (e : AE) (h : AH) : gCons g r (d :: ds) e h = (onlyNx (g d e h)).then fun e1 h1 => r ds e1 h1 := rfl
@[simp] theorem gTup_ (k : Nat) (r : List D → AE → AH → SR) (ds : List D) (e : AE) (h : AH) : gTup k r (.tup ds) e h = if ds.length = k then r ds e h else .stuck := rfl
def putS (o : Option AH) (e : AE) : SR := match o with
  | some h => .nx e h
  | none => .stuck
@[simp] theorem putS_some (h : AH) (e : AE) : putS (some h) e = .nx e h := rfl
@[simp] theorem gSub_ (g : D → D → D → AH → Option AH) (o i : EM) (d : D) (e : AE) (h : AH) : gSub g o i d e h = (o e h).thenS e fun d1 h1 => (i e h1).thenS e fun d2 h2 => putS (g d1 d2 d h2) e := by
  unfold gSub putS ER.thenS
  cases o e h with
  | ok d1 h1 => cases i e h1 with
    | ok d2 h2 => rfl
    | _ => rfl
  | _ => rfl
@[simp] theorem eSl_nn (a : EM) (env : AE) (h : AH) : eSl a none none env h = (a env h).then fun d h1 => oSl d none none h1 := rfl
def intD (d : D) (f : Int → ER) : ER := match d with
  | .int i => f i
  | _ => .stuck
@[simp] theorem intD_int (i : Int) (f : Int → ER) : intD (.int i) f = f i := rfl
@[simp] theorem ePart_n (env : AE) (h : AH) (f : Option Int → AH → ER) : ePart none env h f = f none h := rfl
@[simp] theorem ePart_s (m : EM) (env : AE) (h : AH) (f : Option Int → AH → ER) : ePart (some m) env h f = (m env h).then fun d h1 => intD d fun i => f (some i) h1 := by
  show ((m env h).then fun d h1 => match d with | .int i => f (some i) h1 | _ => .stuck) = _
  unfold intD
  cases m env h with
  | ok d h1 => cases d <;> rfl
  | _ => rfl
@[simp] theorem eSl_ (a : EM) (lo hi : Option EM) (env : AE) (h : AH) : eSl a lo hi env h = (a env h).then fun d h1 => ePart lo env h1 fun l h2 => ePart hi env h2 fun u h3 => oSl d l u h3 := rfl

/-! ### operators on ints -/
@[simp] theorem oAdd_int (i j : Int) (h : AH) : oAdd (.int i) (.int j) h = .ok (.int (i + j)) h := rfl
@[simp] theorem oSub_int (i j : Int) (h : AH) : oSub (.int i) (.int j) h = .ok (.int (i - j)) h := rfl
@[simp] theorem oNeg_int (i : Int) (h : AH) : oNeg (.int i) h = .ok (.int (-i)) h := rfl
@[simp] theorem oLt_int (i j : Int) (h : AH) : oLt (.int i) (.int j) h = .ok (.bl (decide (i < j))) h := rfl
@[simp] theorem oLe_int (i j : Int) (h : AH) : oLe (.int i) (.int j) h = .ok (.bl (decide (i ≤ j))) h := rfl
@[simp] theorem oGt_int (i j : Int) (h : AH) : oGt (.int i) (.int j) h = .ok (.bl (decide (j < i))) h := rfl
@[simp] theorem oGe_int (i j : Int) (h : AH) : oGe (.int i) (.int j) h = .ok (.bl (decide (j ≤ i))) h := rfl
@[simp] theorem oEq_int (i j : Int) (h : AH) : oEq (.int i) (.int j) h = .ok (.bl (i == j)) h := by
  simp [oEq, D.toP, PyData.eqv]
@[simp] theorem oNe_int (i j : Int) (h : AH) : oNe (.int i) (.int j) h = .ok (.bl (!(i == j))) h := by
  simp [oNe, D.toP, PyData.eqv]
@[simp] theorem oIs_non (d : D) (h : AH) : oIs d .non h = .ok (.bl d.isNon) h := rfl
@[simp] theorem oIsNot_non (d : D) (h : AH) : oIsNot d .non h = .ok (.bl (!d.isNon)) h := rfl
@[simp] theorem oTruth_bl (b : Bool) (h : AH) : oTruth (.bl b) h = .ok (.bl b) h := rfl
@[simp] theorem oTruth_int (i : Int) (h : AH) : oTruth (.int i) h = .ok (.bl (i != 0)) h := rfl
@[simp] theorem oTruth_non (h : AH) : oTruth .non h = .ok (.bl false) h := rfl
@[simp] theorem oTruth_tup (ds : List D) (h : AH) : oTruth (.tup ds) h = .ok (.bl (!ds.isEmpty)) h := rfl
theorem oMod_int {i j : Int} {h : AH} (hj : 0 < j) : oMod (.int i) (.int j) h = .ok (.int (i % j)) h := by unfold oMod; exact if_pos hj
theorem oMul_int {i j : Int} {h : AH} (hc : CMulX i j) : oMul (.int i) (.int j) h = .ok (.int (i * j)) h := by unfold oMul; exact if_pos hc
theorem oDiv_int {i j : Int} {h : AH} (hj : DivOk j) : oDiv (.int i) (.int j) h = .ok (.int (i / j)) h := by unfold oDiv; exact if_pos hj
/-- products of numbers below 2^10000 -/
theorem mulOk {i j : Int} (hi : i.natAbs < 2 ^ 10000) (hj : j.natAbs < 2 ^ 10000) : CMulX i j := mulx_ok hi hj (by decide)
theorem log2_small {j : Int} (h1 : 0 < j) (h2 : j.natAbs < 2 ^ 9000) : j.natAbs.log2 < 9000 := by
  have h0 : j.natAbs ≠ 0 := by omega
  exact (Nat.log2_lt h0).mpr h2
@[simp] theorem cLen_tup (ds : List D) (h : AH) : cLen [.tup ds] h = .ok (.int ds.length) h := rfl
@[simp] theorem cLen_rol (ds : List D) (h : AH) : cLen [.rol ds] h = .ok (.int ds.length) h := rfl
theorem cLen_ref {r : Nat} {ds : List D} {h : AH} (e : h[r]? = some (.lst ds)) : cLen [.ref r] h = .ok (.int ds.length) h := by simp [cLen, e]
@[simp] theorem cInt_int (i : Int) (h : AH) : cInt [.int i] h = .ok (.int i) h := rfl
@[simp] theorem cMin2_int (i j : Int) (h : AH) : cMin2 [.int i, .int j] h = .ok (.int (if j < i then j else i)) h := rfl
@[simp] theorem cMax2_int (i j : Int) (h : AH) : cMax2 [.int i, .int j] h = .ok (.int (if j > i then j else i)) h := rfl
@[simp] theorem cAbs_int (i : Int) (h : AH) : cAbs [.int i] h = .ok (.int (if i < 0 then -i else i)) h := rfl
@[simp] theorem cTuple_tup (ds : List D) (h : AH) : cTuple [.tup ds] h = .ok (.tup ds) h := rfl
theorem cTuple_ref {r : Nat} {ds : List D} {h : AH} (e : h[r]? = some (.lst ds)) : cTuple [.ref r] h = .ok (.tup ds) h := by simp [cTuple, seqOf, e]
@[simp] theorem cTuple_rol (ds : List D) (h : AH) : cTuple [.rol ds] h = .ok (.tup ds) h := rfl
@[simp] theorem cList_tup (ds : List D) (h : AH) : cList [.tup ds] h = .ok (.ref h.length) (h ++ [.lst ds]) := rfl
theorem cList_ref {r : Nat} {ds : List D} {h : AH} (e : h[r]? = some (.lst ds)) : cList [.ref r] h = .ok (.ref h.length) (h ++ [.lst ds]) := by simp [cList, seqOf, e]
@[simp] theorem getLast_app {h : AH} {o : AO} : (h ++ [o])[h.length]? = some o := by simp
@[simp] theorem cIsi_int (i : Int) (n : String) (h : AH) (hn : n ∈ askTys := by decide) : cIsi [.int i, .ty n] h = .ok (.bl (isTy "int" n)) h := by simp [cIsi, D.tyn, hn]
@[simp] theorem cIsi_bl (i : Bool) (n : String) (h : AH) (hn : n ∈ askTys := by decide) : cIsi [.bl i, .ty n] h = .ok (.bl (isTy "bool" n)) h := by simp [cIsi, D.tyn, hn]
@[simp] theorem cIsi_str (i : Str) (n : String) (h : AH) (hn : n ∈ askTys := by decide) : cIsi [.str i, .ty n] h = .ok (.bl (isTy "str" n)) h := by simp [cIsi, D.tyn, hn]
@[simp] theorem cIsi_non (n : String) (h : AH) (hn : n ∈ askTys := by decide) : cIsi [.non, .ty n] h = .ok (.bl (isTy "NoneType" n)) h := by simp [cIsi, D.tyn, hn]
@[simp] theorem cIsi_tup (ds : List D) (n : String) (h : AH) (hn : n ∈ askTys := by decide) : cIsi [.tup ds, .ty n] h = .ok (.bl (isTy "tuple" n)) h := by simp [cIsi, D.tyn, hn]

/-! ### items -/
theorem atI_nat' {α : Type} {xs : List α} {j : Nat} (h : j < xs.length) : L2.atI xs (j : Int) = some xs[j] := atI_nat (List.getElem?_eq_getElem h)
theorem oIx_tup {ds : List D} {i : Nat} {h : AH} {d : D} (e : ds[i]? = some d) : oIx (.tup ds) (.int (i : Int)) h = .ok d h := by
  simp [oIx, seqOf, atI_nat e]
theorem oIx_rol {ds : List D} {i : Nat} {h : AH} {d : D} (e : ds[i]? = some d) : oIx (.rol ds) (.int (i : Int)) h = .ok d h := by
  simp [oIx, seqOf, atI_nat e]
theorem oIx_ref {r : Nat} {ds : List D} {i : Nat} {h : AH} {d : D} (e0 : h[r]? = some (.lst ds)) (e : ds[i]? = some d) : oIx (.ref r) (.int (i : Int)) h = .ok d h := by
  simp [oIx, seqOf, e0, atI_nat e]
theorem putL_ref {r : Nat} {ds : List D} {i : Nat} {v : D} {h : AH} (e0 : h[r]? = some (.lst ds)) (hi : i < ds.length) : putL (.ref r) (.int (i : Int)) v h = some (h.set r (.lst (ds.set i v))) := by
  have : L2.ixN ds.length (i : Int) = some i := by
    unfold L2.ixN
    rw [if_pos (by omega), if_pos (by omega)]
    simp
  simp [putL, e0, this]
theorem mAppend_ref {r : Nat} {ds : List D} {v : D} {h : AH} (e0 : h[r]? = some (.lst ds)) (hl : ds.length < sizeLine) : mAppend (.ref r) [v] h = .ok .non (h.set r (.lst (ds ++ [v]))) := by
  have hl : FitsL ds.length := hl
  simp [mAppend, e0, hl]
theorem tyOk_list {r : Nat} {ds : List D} {h : AH} (e0 : h[r]? = some (.lst ds)) : tyOk h "list" (.ref r) = true := by simp [tyOk, e0]

/-! ### loops -/
theorem drop_cons {α : Type} {l r : List α} {i : Nat} {d : α} (h : l.drop i = d :: r) : l[i]? = some d ∧ l.drop (i + 1) = r := by
  refine ⟨?_, ?_⟩
  · have := congrArg (·[0]?) h
    simpa using this
  · have : (l.drop i).drop 1 = r := by rw [h]; rfl
    rwa [List.drop_drop] at this
/-- the body at each item -/
def sLoop (g : GM) (b : SM) : List D → SM
  | [] => fun e h => .nx e h
  | d :: ds => fun e h => again ((onlyNx (g d e h)).then b) (sLoop g b ds)
theorem forN_stat {g : GM} {b : SM} {ds : List D} : ∀ (r : List D) (i : Nat) (e : AE) (h : AH), ds.drop i = r → forN (stat ds) g b (r.length + 1) i e h = sLoop g b r e h
  | [], i, e, h, hd => by
    have hi : ds[i]? = none := by
      have q : ds.length - i = 0 := by simpa using congrArg List.length hd
      have : ds.length ≤ i := by omega
      exact List.getElem?_eq_none_iff.mpr this
    unfold forN
    simp [stat, hi, sLoop]
  | d :: r, i, e, h, hd => by
    obtain ⟨hi, hr⟩ := drop_cons hd
    rw [List.length_cons]
    unfold forN
    simp only [stat, hi]
    unfold sLoop
    congr 1
    funext e' h'
    exact forN_stat r (i + 1) e' h' hr
theorem sFor_stat {mi : IM} {g : GM} {b : SM} {e : AE} {h h1 : AH} {ds : List D} (hm : mi e h = .ok (stat ds) h1) : sFor mi g b e h = sLoop g b ds e h1 := by
  unfold sFor
  rw [hm]
  exact forN_stat ds 0 e h1 rfl
/-- a loop by an invariant: it goes through -/
theorem loop_inv {g : GM} {b : SM} (P : Nat → AE → AH → Prop) : ∀ (ds : List D) (k : Nat) (e : AE) (h : AH), P k e h →
    (∀ (i : Nat) (d : D) (e : AE) (h : AH), ds[i]? = some d → P (k + i) e h → ∃ e' h', (onlyNx (g d e h)).then b = .nx e' h' ∧ P (k + i + 1) e' h') → ∃ e' h', sLoop g b ds e h = .nx e' h' ∧ P (k + ds.length) e' h'
  | [], k, e, h, p, _ => ⟨e, h, rfl, p⟩
  | d :: ds, k, e, h, p, st => by
    obtain ⟨e1, h1, q, p1⟩ := st 0 d e h rfl p
    obtain ⟨e2, h2, q2, p2⟩ := loop_inv P ds (k + 1) e1 h1 p1 fun i d' e' h' hd hp => by
      have hp' : P (k + (i + 1)) e' h' := by rwa [show k + (i + 1) = k + 1 + i by omega]
      obtain ⟨e3, h3, a, c⟩ := st (i + 1) d' e' h' (by simpa using hd) hp'
      exact ⟨e3, h3, a, by rwa [show k + 1 + i + 1 = k + (i + 1) + 1 by omega]⟩
    refine ⟨e2, h2, ?_, by rwa [List.length_cons, show k + (ds.length + 1) = k + 1 + ds.length by omega]⟩
    unfold sLoop
    rw [q]
    exact q2
/-- .. or leaves by a return -/
theorem loop_ret {g : GM} {b : SM} (P : Nat → AE → AH → Prop) (R : D → AH → Prop) : ∀ (ds : List D) (k : Nat) (e : AE) (h : AH), P k e h →
    (∀ (i : Nat) (d : D) (e : AE) (h : AH), ds[i]? = some d → P (k + i) e h → (∃ e' h', (onlyNx (g d e h)).then b = .nx e' h' ∧ P (k + i + 1) e' h') ∨ ∃ d' h', (onlyNx (g d e h)).then b = .rt d' h' ∧ R d' h') →
    (∃ e' h', sLoop g b ds e h = .nx e' h' ∧ P (k + ds.length) e' h') ∨ ∃ d' h', sLoop g b ds e h = .rt d' h' ∧ R d' h'
  | [], k, e, h, p, _ => .inl ⟨e, h, rfl, p⟩
  | d :: ds, k, e, h, p, st => by
    rcases st 0 d e h rfl p with ⟨e1, h1, q, p1⟩ | ⟨d', h', q, r⟩
    · rcases loop_ret P R ds (k + 1) e1 h1 p1 fun i d' e' h' hd hp => by
          have hp' : P (k + (i + 1)) e' h' := by rwa [show k + (i + 1) = k + 1 + i by omega]
          rcases st (i + 1) d' e' h' (by simpa using hd) hp' with ⟨e3, h3, a, c⟩ | c
          · exact .inl ⟨e3, h3, a, by rwa [show k + 1 + i + 1 = k + (i + 1) + 1 by omega]⟩
          · exact .inr c with ⟨e2, h2, q2, p2⟩ | ⟨d2, h2, q2, r2⟩
      · refine .inl ⟨e2, h2, ?_, by rwa [List.length_cons, show k + (ds.length + 1) = k + 1 + ds.length by omega]⟩
        unfold sLoop
        rw [q]
        exact q2
      · refine .inr ⟨d2, h2, ?_, r2⟩
        unfold sLoop
        rw [q]
        exact q2
    · refine .inr ⟨d', h', ?_, r⟩
      unfold sLoop
      rw [q]
      rfl
/-- a list of the heap walked, that stands as it stands -/
theorem forN_live {g : GM} {b : SM} {r : Nat} {ds : List D} {m : Nat} (P : Nat → AE → AH → Prop) (hP : ∀ i e h, P i e h → h[r]? = some (.lst ds)) : ∀ (k i : Nat) (e : AE) (h : AH), i + k = ds.length → P i e h →
    (∀ (i : Nat) (d : D) (e : AE) (h : AH), ds[i]? = some d → P i e h → ∃ e' h', (onlyNx (g d e h)).then b = .nx e' h' ∧ P (i + 1) e' h') → ∃ e' h', forN (live r m) g b (k + 1) i e h = .nx e' h' ∧ P ds.length e' h'
  | 0, i, e, h, hk, p, st => by
    have e0 := hP i e h p
    have ei : i = ds.length := by omega
    refine ⟨e, h, ?_, by rw [← ei]; exact p⟩
    unfold forN
    simp [live, e0, ei]
  | k + 1, i, e, h, hk, p, st => by
    have e0 := hP i e h p
    have hi : i < ds.length := by omega
    obtain ⟨e1, h1, q, p1⟩ := st i ds[i] e h (List.getElem?_eq_getElem hi) p
    obtain ⟨e2, h2, q2, p2⟩ := forN_live P hP k (i + 1) e1 h1 (by omega) p1 st
    refine ⟨e2, h2, ?_, p2⟩
    unfold forN
    simp only [live, e0, List.getElem?_eq_getElem hi]
    rw [q]
    exact q2
theorem sFor_live {mi : IM} {g : GM} {b : SM} {e : AE} {h h1 : AH} {r : Nat} {ds : List D} (P : Nat → AE → AH → Prop) (hm : mi e h = .ok (live r ds.length) h1) (hP : ∀ i e h, P i e h → h[r]? = some (.lst ds)) (p : P 0 e h1)
    (st : ∀ (i : Nat) (d : D) (e : AE) (h : AH), ds[i]? = some d → P i e h → ∃ e' h', (onlyNx (g d e h)).then b = .nx e' h' ∧ P (i + 1) e' h') : ∃ e' h', sFor mi g b e h = .nx e' h' ∧ P ds.length e' h' := by
  unfold sFor
  rw [hm]
  exact forN_live P hP ds.length 0 e h1 (Nat.zero_add _) p st
theorem forN_live_ret {g : GM} {b : SM} {r : Nat} {ds : List D} {m : Nat} (P : Nat → AE → AH → Prop) (R : D → AH → Prop) (hP : ∀ i e h, P i e h → h[r]? = some (.lst ds)) : ∀ (k i : Nat) (e : AE) (h : AH), i + k = ds.length → P i e h →
    (∀ (i : Nat) (d : D) (e : AE) (h : AH), ds[i]? = some d → P i e h → (∃ e' h', (onlyNx (g d e h)).then b = .nx e' h' ∧ P (i + 1) e' h') ∨ ∃ d' h', (onlyNx (g d e h)).then b = .rt d' h' ∧ R d' h') →
    (∃ e' h', forN (live r m) g b (k + 1) i e h = .nx e' h' ∧ P ds.length e' h') ∨ ∃ d' h', forN (live r m) g b (k + 1) i e h = .rt d' h' ∧ R d' h'
  | 0, i, e, h, hk, p, st => by
    have e0 := hP i e h p
    have ei : i = ds.length := by omega
    refine .inl ⟨e, h, ?_, by rw [← ei]; exact p⟩
    unfold forN
    simp [live, e0, ei]
  | k + 1, i, e, h, hk, p, st => by
    have e0 := hP i e h p
    have hi : i < ds.length := by omega
    rcases st i ds[i] e h (List.getElem?_eq_getElem hi) p with ⟨e1, h1, q, p1⟩ | ⟨d', h', q, rr⟩
    · rcases forN_live_ret P R hP k (i + 1) e1 h1 (by omega) p1 st with ⟨e2, h2, q2, p2⟩ | ⟨d2, h2, q2, r2⟩
      · refine .inl ⟨e2, h2, ?_, p2⟩
        unfold forN
        simp only [live, e0, List.getElem?_eq_getElem hi]
        rw [q]
        exact q2
      · refine .inr ⟨d2, h2, ?_, r2⟩
        unfold forN
        simp only [live, e0, List.getElem?_eq_getElem hi]
        rw [q]
        exact q2
    · refine .inr ⟨d', h', ?_, rr⟩
      unfold forN
      simp only [live, e0, List.getElem?_eq_getElem hi]
      rw [q]
      rfl
theorem sFor_live_ret {mi : IM} {g : GM} {b : SM} {e : AE} {h h1 : AH} {r : Nat} {ds : List D} (P : Nat → AE → AH → Prop) (R : D → AH → Prop) (hm : mi e h = .ok (live r ds.length) h1) (hP : ∀ i e h, P i e h → h[r]? = some (.lst ds)) (p : P 0 e h1)
    (st : ∀ (i : Nat) (d : D) (e : AE) (h : AH), ds[i]? = some d → P i e h → (∃ e' h', (onlyNx (g d e h)).then b = .nx e' h' ∧ P (i + 1) e' h') ∨ ∃ d' h', (onlyNx (g d e h)).then b = .rt d' h' ∧ R d' h') :
    (∃ e' h', sFor mi g b e h = .nx e' h' ∧ P ds.length e' h') ∨ ∃ d' h', sFor mi g b e h = .rt d' h' ∧ R d' h' := by
  unfold sFor
  rw [hm]
  exact forN_live_ret P R hP ds.length 0 e h1 (Nat.zero_add _) p st
/-- a while by an invariant and a number that falls -/
theorem while_inv {c : EM} {b : SM} (P : AE → AH → Prop) (μ : AE → AH → Nat) (T : AE → AH → Prop)
    (st : ∀ e h, P e h → (∃ h1, c e h = .ok (.bl false) h1 ∧ T e h1) ∨ ∃ h1, c e h = .ok (.bl true) h1 ∧ ∃ e' h', b e h1 = .nx e' h' ∧ P e' h' ∧ μ e' h' < μ e h) : ∀ (n : Nat) (e : AE) (h : AH), μ e h ≤ n → P e h → ∃ e' h', sWhile c b e h = .nx e' h' ∧ T e' h' := by
  have key : ∀ (n : Nat) (e : AE) (h : AH), μ e h ≤ n → P e h → ∃ k e' h', whileN c b k e h = .nx e' h' ∧ T e' h' := by
    intro n
    induction n with
    | zero =>
      intro e h hn p
      rcases st e h p with ⟨h1, hc, t⟩ | ⟨h1, hc, e', h', hb, p', l⟩
      · exact ⟨1, e, h1, (by unfold whileN; rw [hc]; rfl), t⟩
      · omega
    | succ n ih =>
      intro e h hn p
      rcases st e h p with ⟨h1, hc, t⟩ | ⟨h1, hc, e', h', hb, p', l⟩
      · exact ⟨1, e, h1, (by unfold whileN; rw [hc]; rfl), t⟩
      · obtain ⟨k, e2, h2, q, t⟩ := ih e' h' (by omega) p'
        refine ⟨k + 1, e2, h2, ?_, t⟩
        unfold whileN
        rw [hc]
        show again (b e h1) (whileN c b k) = _
        rw [hb]
        exact q
  intro n e h hn p
  obtain ⟨k, e', h', q, t⟩ := key n e h hn p
  exact ⟨e', h', sWhile_eq q (by intro z; cases z), t⟩

/-! ### comprehensions -/
theorem lc_pure {α : Type} {φ : α → D} {k : Nat} {tt te : EM} {e0 : AE} {h : AH} (p : α → Bool) (f : α → D) {ds : List D} : ∀ (r : List α) (i : Nat) (acc : List D), ds.drop i = r.map φ → acc.length + r.length ≤ sizeLine →
    (∀ x ∈ r, tt (e0.set k (some (φ x))) h = .ok (.bl (p x)) h) → (∀ x ∈ r, p x = true → te (e0.set k (some (φ x))) h = .ok (f x) h) →
    lcN (stat ds) (gVar k) tt te e0 (r.length + 1) i acc h = .inr (acc ++ (r.filter p).map f, h)
  | [], i, acc, hd, _, _, _ => by
    have hi : ds[i]? = none := by
      have q : ds.length - i = 0 := by simpa using congrArg List.length hd
      have : ds.length ≤ i := by omega
      exact List.getElem?_eq_none_iff.mpr this
    unfold lcN
    simp [stat, hi]
  | x :: r, i, acc, hd, hl, ht, hf => by
    obtain ⟨hi, hr⟩ := drop_cons (show ds.drop i = φ x :: r.map φ from hd)
    rw [List.length_cons] at hl ⊢
    unfold lcN
    simp only [stat, hi, gVar_, ht x List.mem_cons_self]
    cases hp : p x with
    | true =>
      simp only [hf x List.mem_cons_self hp]
      rw [if_pos (show FitsL acc.length from (by omega : acc.length < sizeLine))]
      have ih := lc_pure (φ := φ) (k := k) (tt := tt) (te := te) (e0 := e0) (h := h) p f (ds := ds) r (i + 1) (acc ++ [f x]) hr (by simp; omega) (fun y hy => ht y (List.mem_cons_of_mem _ hy)) fun y hy => hf y (List.mem_cons_of_mem _ hy)
      simp only [stat] at ih
      rw [ih, List.filter_cons, if_pos hp, List.map_cons, List.append_assoc]; rfl
    | false =>
      have ih := lc_pure (φ := φ) (k := k) (tt := tt) (te := te) (e0 := e0) (h := h) p f (ds := ds) r (i + 1) acc hr (by omega) (fun y hy => ht y (List.mem_cons_of_mem _ hy)) fun y hy => hf y (List.mem_cons_of_mem _ hy)
      simp only [stat] at ih
      dsimp only
      rw [ih, List.filter_cons, if_neg (by rw [hp]; exact Bool.false_ne_true)]
/-- [f x for x in a row that stands still if p x], nothing else changes -/
theorem eLc_pure {α : Type} {φ : α → D} {k : Nat} {mi : IM} {tt te : EM} {vs : List Nat} {e : AE} {h h1 : AH} (xs : List α) (p : α → Bool) (f : α → D) (hm : mi e h = .ok (stat (xs.map φ)) h1) (hl : xs.length ≤ sizeLine)
    (ht : ∀ x ∈ xs, tt ((wipeE e vs).set k (some (φ x))) h1 = .ok (.bl (p x)) h1) (hf : ∀ x ∈ xs, p x = true → te ((wipeE e vs).set k (some (φ x))) h1 = .ok (f x) h1) :
    eLc mi (gVar k) tt te vs e h = .ok (.ref h1.length) (h1 ++ [.lst ((xs.filter p).map f)]) := by
  unfold eLc
  rw [hm]
  have := lc_pure (φ := φ) (k := k) (tt := tt) (te := te) (e0 := wipeE e vs) (h := h1) p f (ds := xs.map φ) xs 0 [] rfl (by simpa using hl) ht hf
  have hn : (stat (xs.map φ)).n = xs.length := by simp [stat]
  simp only [hn, this, List.nil_append]
theorem eLc_map {α : Type} {φ : α → D} {k : Nat} {mi : IM} {te : EM} {vs : List Nat} {e : AE} {h h1 : AH} (xs : List α) (f : α → D) (hm : mi e h = .ok (stat (xs.map φ)) h1) (hl : xs.length ≤ sizeLine)
    (hf : ∀ x ∈ xs, te ((wipeE e vs).set k (some (φ x))) h1 = .ok (f x) h1) : eLc mi (gVar k) (eC (.bl true)) te vs e h = .ok (.ref h1.length) (h1 ++ [.lst (xs.map f)]) := by
  have := eLc_pure (tt := eC (.bl true)) (φ := φ) (k := k) (te := te) (vs := vs) xs (fun _ => true) f hm hl (fun _ _ => rfl) (fun x hx _ => hf x hx)
  rw [this, List.filter_eq_self.mpr (by simp)]
/-- a list of the heap that stands still is as good as a row -/
theorem lcN_live {g : GM} {tt te : EM} {e0 : AE} {r m : Nat} {ds : List D} : ∀ (k i : Nat) (acc : List D) (h : AH), h[r]? = some (.lst ds) →
    (∀ (i : Nat) (d : D), ds[i]? = some d → ∀ e1 h1, g d e0 h = .nx e1 h1 → h1 = h ∧ (∀ b h2, tt e1 h = .ok (.bl b) h2 → h2 = h) ∧ ∀ d2 h3, te e1 h = .ok d2 h3 → h3 = h) → lcN (live r m) g tt te e0 k i acc h = lcN (stat ds) g tt te e0 k i acc h
  | 0, i, acc, h, _, _ => rfl
  | k + 1, i, acc, h, e0', hs => by
    unfold lcN
    simp only [live, e0', stat]
    cases hd : ds[i]? with
    | none => rfl
    | some d =>
      dsimp only
      cases hg : g d e0 h with
      | nx e1 h1 =>
        obtain ⟨rfl, q1, q2⟩ := hs i d hd e1 h1 hg
        dsimp only
        cases ht : tt e1 h1 with
        | ok db h2 =>
          cases db with
          | bl b =>
            have := q1 b h2 ht
            subst this
            cases b with
            | true =>
              dsimp only
              cases he : te e1 h2 with
              | ok d2 h3 =>
                have := q2 d2 h3 he
                subst this
                dsimp only
                split
                · exact lcN_live k (i + 1) (acc ++ [d2]) h3 e0' hs
                · rfl
              | _ => rfl
            | false => exact lcN_live k (i + 1) acc h2 e0' hs
          | _ => rfl
        | _ => rfl
      | _ => rfl
theorem eLc_pureL {α : Type} {φ : α → D} {k r : Nat} {mi : IM} {tt te : EM} {vs : List Nat} {e : AE} {h h1 : AH} (xs : List α) (p : α → Bool) (f : α → D) (hm : mi e h = .ok (live r xs.length) h1) (hr : h1[r]? = some (.lst (xs.map φ))) (hl : xs.length ≤ sizeLine)
    (ht : ∀ x ∈ xs, tt ((wipeE e vs).set k (some (φ x))) h1 = .ok (.bl (p x)) h1) (hf : ∀ x ∈ xs, te ((wipeE e vs).set k (some (φ x))) h1 = .ok (f x) h1) :
    eLc mi (gVar k) tt te vs e h = .ok (.ref h1.length) (h1 ++ [.lst ((xs.filter p).map f)]) := by
  unfold eLc
  rw [hm]
  have := lc_pure (φ := φ) (k := k) (tt := tt) (te := te) (e0 := wipeE e vs) (h := h1) p f (ds := xs.map φ) xs 0 [] rfl (by simpa using hl) ht fun x hx _ => hf x hx
  have l := lcN_live (g := gVar k) (tt := tt) (te := te) (e0 := wipeE e vs) (r := r) (m := xs.length) (ds := xs.map φ) (xs.length + 1) 0 [] h1 hr fun i d hd e1 h1' hg => by
    rw [gVar_] at hg
    cases hg
    rw [List.getElem?_map] at hd
    cases hx : xs[i]? with
    | none => rw [hx] at hd; cases hd
    | some x =>
      rw [hx] at hd
      cases hd
      have mx := List.mem_of_getElem? hx
      refine ⟨rfl, fun b h2 e2 => ?_, fun d2 h3 e3 => ?_⟩
      · rw [ht x mx] at e2; cases e2; rfl
      · rw [hf x mx] at e3; cases e3; rfl
  have hn : (live r xs.length).n = xs.length := rfl
  simp only [hn, l, this, List.nil_append]

/-! ### what a call leaves -/
theorem keep_app {h g : AH} : Keep h (h ++ g) := ⟨by simp, fun i o hi e => .inl (by rwa [List.getElem?_append_left hi] at e)⟩
theorem keep_set {h : AH} {a : Nat} {o : AO} (f : o.flat = true) : Keep h (h.set a o) := ⟨by simp, fun i o' hi e => by
  by_cases q : a = i
  · subst q
    rw [List.getElem?_set_self hi] at e
    cases e
    exact .inr f
  · rw [List.getElem?_set_ne q] at e
    exact .inl e⟩
theorem keep_set_app {h g : AH} {a : Nat} {o : AO} (f : o.flat = true) : Keep h (h.set a o ++ g) := ⟨by simp, fun i o' hi e => by
  rw [List.getElem?_append_left (by simpa using hi)] at e
  exact (keep_set f).2 i o' hi e⟩
theorem gc_app {h g : AH} {d : D} (p : d.pure = true) : gc h (.ok d (h ++ g)) = .ok d h := by
  rw [gc_pure keep_app p]; simp
theorem gc_same {h : AH} {d : D} (p : d.pure = true) : gc h (.ok d h) = .ok d h := by
  have := gc_app (h := h) (g := []) p
  simpa using this
theorem gc_set {h : AH} {a : Nat} {o : AO} {d : D} (p : d.pure = true) (f : o.flat = true) : gc h (.ok d (h.set a o)) = .ok d (h.set a o) := by
  rw [gc_pure (keep_set f) p]
  rw [List.take_of_length_le (by simp)]
theorem gc_set_app {h g : AH} {a : Nat} {o : AO} {d : D} (p : d.pure = true) (f : o.flat = true) : gc h (.ok d (h.set a o ++ g)) = .ok d (h.set a o) := by
  rw [gc_pure (keep_set_app f) p]
  rw [List.take_append_of_le_length (by simp), List.take_of_length_le (by simp)]
/-- a list is handed back -/
theorem gc_new {h g : AH} {i : Nat} {o : AO} (e : g[i]? = some o) (f : o.flat = true) : gc h (.ok (.ref (h.length + i)) (h ++ g)) = .ok (.ref h.length) (h ++ [o]) := by
  rw [gc_list keep_app (by omega) (by rw [List.getElem?_append_right (by omega)]; simpa using e) f]
  simp
theorem gc_set_new {h g : AH} {a i : Nat} {o u : AO} (fu : u.flat = true) (e : g[i]? = some o) (f : o.flat = true) : gc h (.ok (.ref (h.length + i)) (h.set a u ++ g)) = .ok (.ref h.length) (h.set a u ++ [o]) := by
  rw [gc_list (keep_set_app fu) (by omega) (by rw [List.getElem?_append_right (by simp)]; simpa using e) f]
  rw [List.take_append_of_le_length (by simp), List.take_of_length_le (by simp)]

/-! ### numbers 0, 1, .. as data -/
abbrev dN (n : Nat) : D := .int (n : Int)
@[simp] theorem pure_int (i : Int) : (D.int i).pure = true := rfl
@[simp] theorem pure_bl (i : Bool) : (D.bl i).pure = true := rfl
@[simp] theorem pure_str (i : Str) : (D.str i).pure = true := rfl
@[simp] theorem pure_non : D.non.pure = true := rfl
@[simp] theorem pure_tup (ds : List D) : (D.tup ds).pure = pures ds := rfl
@[simp] theorem pure_rol (ds : List D) : (D.rol ds).pure = pures ds := rfl
@[simp] theorem flat_lst (ds : List D) : (AO.lst ds).flat = pures ds := rfl
@[simp] theorem pures_nil : pures [] = true := rfl
@[simp] theorem pures_cons (d : D) (ds : List D) : pures (d :: ds) = (d.pure && pures ds) := rfl
theorem pures_map {α : Type} {f : α → D} {xs : List α} (h : ∀ x ∈ xs, (f x).pure = true) : pures (xs.map f) = true := pures_iff.mpr fun d hd => by
  obtain ⟨x, hx, rfl⟩ := List.mem_map.mp hd
  exact h x hx
@[simp] theorem pures_dN (xs : List Nat) : pures (xs.map dN) = true := pures_map fun _ _ => rfl
@[simp] theorem pures_int (xs : List Int) : pures (xs.map D.int) = true := pures_map fun _ _ => rfl
@[simp] theorem pures_append (xs ys : List D) : pures (xs ++ ys) = (pures xs && pures ys) := by
  induction xs with
  | nil => simp
  | cons x xs ih => simp [ih, Bool.and_assoc]
theorem rg_zero (n : Nat) : rg 0 n = (List.range n).map dN := by
  unfold rg
  apply List.map_congr_left
  intro i _
  simp
end Rf

set_option maxHeartbeats 1000000
/-! More for simp: things of the heap by what stands there. -/
namespace Rf
open PySem L2
def ixD (ds : List D) (i : Int) (h : AH) : ER := match L2.atI ds i with
  | some d => .ok d h
  | none => .stuck
def ixO (o : Option AO) (i : Int) (h : AH) : ER := match o with
  | some (.lst ds) => ixD ds i h
  | _ => .stuck
@[simp] theorem ixO_lst (ds : List D) (i : Int) (h : AH) : ixO (some (.lst ds)) i h = ixD ds i h := rfl
@[simp] theorem oIx_ref_ (r : Nat) (i : Int) (h : AH) : oIx (.ref r) (.int i) h = ixO h[r]? i h := by
  simp only [oIx, seqOf, ixO, ixD]
  cases h[r]? with
  | none => rfl
  | some o => cases o <;> rfl
@[simp] theorem oIx_tup_ (ds : List D) (i : Int) (h : AH) : oIx (.tup ds) (.int i) h = ixD ds i h := rfl
@[simp] theorem oIx_rol_ (ds : List D) (i : Int) (h : AH) : oIx (.rol ds) (.int i) h = ixD ds i h := rfl
theorem ixD_some {ds : List D} {i : Nat} {d : D} {h : AH} (e : ds[i]? = some d) : ixD ds (i : Int) h = .ok d h := by simp [ixD, atI_nat e]
@[simp] theorem ixD_0 (d : D) (ds : List D) (h : AH) : ixD (d :: ds) 0 h = .ok d h := ixD_some (i := 0) rfl
@[simp] theorem ixD_1 (a d : D) (ds : List D) (h : AH) : ixD (a :: d :: ds) 1 h = .ok d h := ixD_some (i := 1) rfl
@[simp] theorem ixD_2 (a b d : D) (ds : List D) (h : AH) : ixD (a :: b :: d :: ds) 2 h = .ok d h := ixD_some (i := 2) rfl
@[simp] theorem ixD_3 (a b c d : D) (ds : List D) (h : AH) : ixD (a :: b :: c :: d :: ds) 3 h = .ok d h := ixD_some (i := 3) rfl
@[simp] theorem ixD_4 (a b c e d : D) (ds : List D) (h : AH) : ixD (a :: b :: c :: e :: d :: ds) 4 h = .ok d h := ixD_some (i := 4) rfl
theorem ixD_map {α : Type} {f : α → D} {xs : List α} {i : Nat} {h : AH} {x : α} (e : xs[i]? = some x) : ixD (xs.map f) (i : Int) h = .ok (f x) h := ixD_some (by rw [List.getElem?_map, e]; rfl)
theorem getD_some {α : Type} {xs : List α} {i : Nat} {a : α} (hi : i < xs.length) : xs[i]? = some (xs.getD i a) := by simp [hi]
/-- an item of a row of numbers -/
theorem ixD_N {xs : List Nat} {i : Nat} {h : AH} (hi : i < xs.length) : ixD (xs.map dN) (i : Int) h = .ok (dN (xs.getD i 0)) h := ixD_map (getD_some hi)
def putO (o : Option AO) (r : Nat) (i : Int) (v : D) (h : AH) : Option AH := match o with
  | some (.lst ds) => (match L2.ixN ds.length i with
    | some j => some (h.set r (.lst (ds.set j v)))
    | none => none)
  | _ => none
@[simp] theorem putL_ref_ (r : Nat) (i : Int) (v : D) (h : AH) : putL (.ref r) (.int i) v h = putO h[r]? r i v h := rfl
theorem ixN_nat {n i : Nat} (hi : i < n) : L2.ixN n (i : Int) = some i := by
  unfold L2.ixN
  rw [if_pos (by omega), if_pos (by omega)]
  simp
theorem putO_nat {ds : List D} {r i : Nat} {v : D} {h : AH} (hi : i < ds.length) : putO (some (.lst ds)) r (i : Int) v h = some (h.set r (.lst (ds.set i v))) := by simp [putO, ixN_nat hi]
@[simp] theorem putO_0 (d : D) (ds : List D) (r : Nat) (v : D) (h : AH) : putO (some (.lst (d :: ds))) r 0 v h = some (h.set r (.lst (v :: ds))) := putO_nat (i := 0) (by simp)
@[simp] theorem putO_1 (a d : D) (ds : List D) (r : Nat) (v : D) (h : AH) : putO (some (.lst (a :: d :: ds))) r 1 v h = some (h.set r (.lst (a :: v :: ds))) := putO_nat (i := 1) (by simp)
@[simp] theorem putO_2 (a b d : D) (ds : List D) (r : Nat) (v : D) (h : AH) : putO (some (.lst (a :: b :: d :: ds))) r 2 v h = some (h.set r (.lst (a :: b :: v :: ds))) := putO_nat (i := 2) (by simp)
@[simp] theorem putO_3 (a b c d : D) (ds : List D) (r : Nat) (v : D) (h : AH) : putO (some (.lst (a :: b :: c :: d :: ds))) r 3 v h = some (h.set r (.lst (a :: b :: c :: v :: ds))) := putO_nat (i := 3) (by simp)
/-- a row of numbers, one changed -/
theorem putO_N {xs : List Nat} {r i v : Nat} {h : AH} (hi : i < xs.length) : putO (some (.lst (xs.map dN))) r (i : Int) (dN v) h = some (h.set r (.lst ((xs.set i v).map dN))) := by
  rw [putO_nat (by simpa using hi), List.map_set]
noncomputable def appO (o : Option AO) (r : Nat) (v : D) (h : AH) : ER := match o with
  | some (.lst xs) => if FitsL xs.length then .ok .non (h.set r (.lst (xs ++ [v]))) else .stuck
  | _ => .stuck
@[simp] theorem mAppend_ref_ (r : Nat) (v : D) (h : AH) : mAppend (.ref r) [v] h = appO h[r]? r v h := rfl
theorem appO_lst {ds : List D} {r : Nat} {v : D} {h : AH} (hl : ds.length < sizeLine) : appO (some (.lst ds)) r v h = .ok .non (h.set r (.lst (ds ++ [v]))) := if_pos hl
def tyO (o : Option AO) (T : String) : Bool := match o with
  | some (.lst _) => T == "list"
  | some (.dK _) => T == "dict"
  | some (.dT _) => T == "dict"
  | some (.lk _ _ _) => false
  | none => false
@[simp] theorem tyOk_ref_ (h : AH) (T : String) (r : Nat) : tyOk h T (.ref r) = tyO h[r]? T := rfl
@[simp] theorem tyO_lst (ds : List D) (T : String) : tyO (some (.lst ds)) T = (T == "list") := rfl
def lenO (o : Option AO) (h : AH) : ER := match o with
  | some (.lst es) => .ok (.int es.length) h
  | some (.dK kvs) => .ok (.int kvs.length) h
  | _ => .stuck
@[simp] theorem cLen_ref_ (r : Nat) (h : AH) : cLen [.ref r] h = lenO h[r]? h := rfl
@[simp] theorem lenO_lst (es : List D) (h : AH) : lenO (some (.lst es)) h = .ok (.int es.length) h := rfl
def tupO (o : Option AO) (h : AH) : ER := match o with
  | some (.lst es) => .ok (.tup es) h
  | _ => .stuck
@[simp] theorem cTuple_ref_ (r : Nat) (h : AH) : cTuple [.ref r] h = tupO h[r]? h := by
  simp only [cTuple, seqOf, tupO]
  cases h[r]? with
  | none => rfl
  | some o => cases o <;> rfl
@[simp] theorem tupO_lst (es : List D) (h : AH) : tupO (some (.lst es)) h = .ok (.tup es) h := rfl
def lstO (o : Option AO) (h : AH) : ER := match o with
  | some (.lst es) => .ok (.ref h.length) (h ++ [.lst es])
  | _ => .stuck
@[simp] theorem cList_ref_ (r : Nat) (h : AH) : cList [.ref r] h = lstO h[r]? h := by
  simp only [cList, seqOf, lstO]
  cases h[r]? with
  | none => rfl
  | some o => cases o <;> rfl
@[simp] theorem lstO_lst (es : List D) (h : AH) : lstO (some (.lst es)) h = .ok (.ref h.length) (h ++ [.lst es]) := rfl
def slO (o : Option AO) (lo hi : Option Int) (h : AH) : ER := match o with
  | some (.lst es) => .ok (.ref h.length) (h ++ [.lst (cutD es lo hi)])
  | _ => .stuck
@[simp] theorem oSl_ref_ (r : Nat) (lo hi : Option Int) (h : AH) : oSl (.ref r) lo hi h = slO h[r]? lo hi h := by
  simp only [oSl, listOf, slO]
  cases h[r]? with
  | none => rfl
  | some o => cases o <;> rfl
@[simp] theorem slO_lst (es : List D) (lo hi : Option Int) (h : AH) : slO (some (.lst es)) lo hi h = .ok (.ref h.length) (h ++ [.lst (cutD es lo hi)]) := rfl
@[simp] theorem oSl_tup_ (es : List D) (lo hi : Option Int) (h : AH) : oSl (.tup es) lo hi h = .ok (.tup (cutD es lo hi)) h := rfl
@[simp] theorem oSl_rol_ (es : List D) (lo hi : Option Int) (h : AH) : oSl (.rol es) lo hi h = .ok (.ref h.length) (h ++ [.lst (cutD es lo hi)]) := rfl
theorem cutD_to (es : List D) (k : Nat) : cutD es none (some (k : Int)) = es.take k := by
  unfold cutD
  rw [HT.sIx_none, HT.sIx_nat, List.drop_zero, Nat.sub_zero]
  rw [List.take_eq_take_iff]
  omega
theorem cutD_from (es : List D) (k : Nat) : cutD es (some (k : Int)) none = es.drop k := by
  unfold cutD
  rw [HT.sIx_none, HT.sIx_nat]
  by_cases hk : k ≤ es.length
  · rw [Nat.min_eq_left hk, List.take_of_length_le (by simp)]
  · rw [Nat.min_eq_right (by omega), Nat.sub_self, List.take_zero, List.drop_eq_nil_of_le (by omega)]
theorem cutD_mid (es : List D) (k j : Nat) (hk : k ≤ es.length) : cutD es (some (k : Int)) (some (j : Int)) = (es.drop k).take (j - k) := by
  unfold cutD
  rw [HT.sIx_nat, HT.sIx_nat, Nat.min_eq_left hk, List.take_eq_take_iff, List.length_drop]
  omega
def sumO (o : Option AO) (h : AH) : ER := match o with
  | some (.lst es) => (match intsOf es with
    | some ns => .ok (.int ns.sum) h
    | none => .stuck)
  | _ => .stuck
@[simp] theorem cSum_ref_ (r : Nat) (h : AH) : cSum [.ref r] h = sumO h[r]? h := by
  simp only [cSum, listOf, sumO]
  cases h[r]? with
  | none => rfl
  | some o => cases o <;> rfl
@[simp] theorem sumO_ints (ns : List Int) (h : AH) : sumO (some (.lst (ns.map D.int))) h = .ok (.int ns.sum) h := by simp [sumO]
@[simp] theorem oPow_ (i j : Int) (h : AH) : oPow (.int i) (.int j) h = if PowOk i j then .ok (.int (i ^ j.toNat)) h else .stuck := rfl
/-- numbers below 10^600 -/
theorem oMul_b {i j : Int} {h : AH} (h1 : -(10 ^ 200) ≤ i) (h2 : i ≤ 10 ^ 200) (h3 : -(10 ^ 200) ≤ j) (h4 : j ≤ 10 ^ 200) : oMul (.int i) (.int j) h = .ok (.int (i * j)) h := by
  have e : (10 : Int) ^ 200 = ((10 ^ 200 : Nat) : Int) := by norm_cast
  rw [e] at h1 h2 h3 h4
  have l : (10 : Nat) ^ 200 < 2 ^ 10000 := by
    have a : (10 : Nat) ^ 200 ≤ (2 ^ 4) ^ 200 := Nat.pow_le_pow_left (by decide) 200
    rw [← Nat.pow_mul] at a
    exact Nat.lt_of_le_of_lt a (Nat.pow_lt_pow_right (by decide) (by decide))
  exact oMul_int (mulOk (Nat.lt_of_le_of_lt (by omega : i.natAbs ≤ 10 ^ 200) l) (Nat.lt_of_le_of_lt (by omega : j.natAbs ≤ 10 ^ 200) l))
theorem mulB {i j : Int} (h1 : -(10 ^ 200) ≤ i) (h2 : i ≤ 10 ^ 200) (h3 : -(10 ^ 200) ≤ j) (h4 : j ≤ 10 ^ 200) : CMulX i j := by
  have e : (10 : Int) ^ 200 = ((10 ^ 200 : Nat) : Int) := by norm_cast
  rw [e] at h1 h2 h3 h4
  have l : (10 : Nat) ^ 200 < 2 ^ 10000 := by
    have a : (10 : Nat) ^ 200 ≤ (2 ^ 4) ^ 200 := Nat.pow_le_pow_left (by decide) 200
    rw [← Nat.pow_mul] at a
    exact Nat.lt_of_le_of_lt a (Nat.pow_lt_pow_right (by decide) (by decide))
  exact mulOk (Nat.lt_of_le_of_lt (by omega : i.natAbs ≤ 10 ^ 200) l) (Nat.lt_of_le_of_lt (by omega : j.natAbs ≤ 10 ^ 200) l)
theorem divB {j : Int} (h1 : 0 < j) (h2 : j ≤ 10 ^ 200) : DivOk j := by
  have e : (10 : Int) ^ 200 = ((10 ^ 200 : Nat) : Int) := by norm_cast
  rw [e] at h2
  have l : (10 : Nat) ^ 200 < 2 ^ 9000 := by
    have a : (10 : Nat) ^ 200 ≤ (2 ^ 4) ^ 200 := Nat.pow_le_pow_left (by decide) 200
    rw [← Nat.pow_mul] at a
    exact Nat.lt_of_le_of_lt a (Nat.pow_lt_pow_right (by decide) (by decide))
  exact ⟨h1, log2_small h1 (Nat.lt_of_le_of_lt (by omega : j.natAbs ≤ 10 ^ 200) l)⟩
theorem get_set {α : Type} {h : List α} {a : Nat} {o : α} (ha : h[a]? = some o) (x : α) : (h.set a x)[a]? = some x := List.getElem?_set_self (List.getElem?_eq_some_iff.mp ha).1
theorem oMul_ (i j : Int) (h : AH) : oMul (.int i) (.int j) h = if CMulX i j then .ok (.int (i * j)) h else .stuck := rfl
theorem oDiv_ (i j : Int) (h : AH) : oDiv (.int i) (.int j) h = if DivOk j then .ok (.int (i / j)) h else .stuck := rfl
theorem oMod_ (i j : Int) (h : AH) : oMod (.int i) (.int j) h = if 0 < j then .ok (.int (i % j)) h else .stuck := rfl
theorem oDiv_b {i j : Int} {h : AH} (h1 : 0 < j) (h2 : j ≤ 10 ^ 200) : oDiv (.int i) (.int j) h = .ok (.int (i / j)) h := by
  have e : (10 : Int) ^ 200 = ((10 ^ 200 : Nat) : Int) := by norm_cast
  rw [e] at h2
  have l : (10 : Nat) ^ 200 < 2 ^ 9000 := by
    have a : (10 : Nat) ^ 200 ≤ (2 ^ 4) ^ 200 := Nat.pow_le_pow_left (by decide) 200
    rw [← Nat.pow_mul] at a
    exact Nat.lt_of_le_of_lt a (Nat.pow_lt_pow_right (by decide) (by decide))
  exact oDiv_int ⟨h1, log2_small h1 (Nat.lt_of_le_of_lt (by omega : j.natAbs ≤ 10 ^ 200) l)⟩
/-! walks -/
noncomputable def forR (o : LR) (g : GM) (b : SM) (e : AE) : SR := match o with
  | .ok [.int j] h1 => if RgB j then sLoop g b (rg 0 j.toNat) e h1 else .stuck
  | .ok _ _ => .stuck
  | .exc c fs h1 => .exc c fs e h1
  | .stuck => .stuck
@[simp] theorem sFor_range1 (l : LM) (g : GM) (b : SM) (e : AE) (h : AH) : sFor (iRange1 l) g b e h = forR (l e h) g b e := by
  unfold sFor iRange1 forR
  cases l e h with
  | ok ds h1 =>
    match ds with
    | [.int j] =>
      dsimp only
      by_cases hj : RgB j
      · rw [if_pos hj, if_pos hj]
        exact forN_stat _ 0 e h1 rfl
      · rw [if_neg hj, if_neg hj]
    | [] => rfl
    | .non :: _ => rfl
    | .bl _ :: _ => rfl
    | .str _ :: _ => rfl
    | .ty _ :: _ => rfl
    | .tup _ :: _ => rfl
    | .rol _ :: _ => rfl
    | .kt _ :: _ => rfl
    | .ref _ :: _ => rfl
    | .int _ :: _ :: _ => rfl
  | exc c fs h1 => rfl
  | stuck => rfl
@[simp] theorem forR_ok (j : Int) (h1 : AH) (g : GM) (b : SM) (e : AE) : forR (.ok [.int j] h1) g b e = if RgB j then sLoop g b (rg 0 j.toNat) e h1 else .stuck := rfl
/-- a list of the heap walked -/
def liveL (r : Nat) (ds : List D) (g : GM) (b : SM) (e : AE) (h : AH) : SR := forN (live r ds.length) g b (ds.length + 1) 0 e h
def forO (o : Option AO) (r : Nat) (g : GM) (b : SM) (e : AE) (h : AH) : SR := match o with
  | some (.lst ds) => liveL r ds g b e h
  | _ => .stuck
@[simp] theorem forO_lst (ds : List D) (r : Nat) (g : GM) (b : SM) (e : AE) (h : AH) : forO (some (.lst ds)) r g b e h = liveL r ds g b e h := rfl
def forV (o : ER) (g : GM) (b : SM) (e : AE) : SR := match o with
  | .ok (.tup ds) h1 => sLoop g b ds e h1
  | .ok (.rol ds) h1 => sLoop g b ds e h1
  | .ok (.str x) h1 => sLoop g b (signs x) e h1
  | .ok (.ref r) h1 => forO h1[r]? r g b e h1
  | .ok _ _ => .stuck
  | .exc c fs h1 => .exc c fs e h1
  | .stuck => .stuck
@[simp] theorem forV_tup (ds : List D) (g : GM) (b : SM) (e : AE) (h : AH) : forV (.ok (.tup ds) h) g b e = sLoop g b ds e h := rfl
@[simp] theorem forV_rol (ds : List D) (g : GM) (b : SM) (e : AE) (h : AH) : forV (.ok (.rol ds) h) g b e = sLoop g b ds e h := rfl
@[simp] theorem forV_str (x : Str) (g : GM) (b : SM) (e : AE) (h : AH) : forV (.ok (.str x) h) g b e = sLoop g b (signs x) e h := rfl
@[simp] theorem forV_ref (r : Nat) (g : GM) (b : SM) (e : AE) (h : AH) : forV (.ok (.ref r) h) g b e = forO h[r]? r g b e h := rfl
@[simp] theorem sFor_val (m : EM) (g : GM) (b : SM) (e : AE) (h : AH) : sFor (iVal m) g b e h = forV (m e h) g b e := by
  unfold sFor iVal forV
  cases m e h with
  | ok d h1 =>
    cases d with
    | tup ds => exact forN_stat ds 0 e h1 rfl
    | rol ds => exact forN_stat ds 0 e h1 rfl
    | str x => exact forN_stat (signs x) 0 e h1 rfl
    | ref r =>
      dsimp only
      unfold forO liveL
      cases h1[r]? with
      | none => rfl
      | some o => cases o <;> rfl
    | _ => rfl
  | exc c fs h1 => rfl
  | stuck => rfl
noncomputable def rgE (tp : Bool) (d : D) (h1 : AH) : ER := match d with
  | .int j => if RgOk 0 j then (if tp then .ok (.tup (rg 0 j.toNat)) h1 else .ok (.ref h1.length) (h1 ++ [.lst (rg 0 j.toNat)])) else .stuck
  | _ => .stuck
@[simp] theorem eRg1_ (tp : Bool) (m : EM) (e : AE) (h : AH) : eRg1 tp m e h = (m e h).then (rgE tp) := rfl
@[simp] theorem rgE_t (j : Int) (h1 : AH) : rgE true (.int j) h1 = if RgOk 0 j then .ok (.tup (rg 0 j.toNat)) h1 else .stuck := by
  unfold rgE; simp
@[simp] theorem rgE_f (j : Int) (h1 : AH) : rgE false (.int j) h1 = if RgOk 0 j then .ok (.ref h1.length) (h1 ++ [.lst (rg 0 j.toNat)]) else .stuck := by
  unfold rgE; simp
theorem rgB_nat {n : Nat} (h : n ≤ 1000000) : RgB (n : Int) := ⟨by omega, by omega⟩
theorem rgOk_nat {n : Nat} (hn : n ≤ 16777216) : RgOk 0 (n : Int) := RgOk.of_le (Int.le_refl 0) (by omega) (by decide) (by omega)
theorem iRange1_nat {m : EM} {e : AE} {h h1 : AH} {n : Nat} (hm : m e h = .ok (.int (n : Int)) h1) (hn : n ≤ 1000000) : iRange1 (lCons m lNil) e h = .ok (stat ((List.range n).map dN)) h1 := by
  simp only [iRange1, lCons_, lNil_, hm, thenL_ok, lrcons_ok]
  rw [if_pos (rgB_nat hn), Int.toNat_natCast, rg_zero]
theorem iVal_tup {m : EM} {e : AE} {h h1 : AH} {ds : List D} (hm : m e h = .ok (.tup ds) h1) : iVal m e h = .ok (stat ds) h1 := by simp [iVal, hm]
theorem iVal_rol {m : EM} {e : AE} {h h1 : AH} {ds : List D} (hm : m e h = .ok (.rol ds) h1) : iVal m e h = .ok (stat ds) h1 := by simp [iVal, hm]
theorem iVal_str {m : EM} {e : AE} {h h1 : AH} {x : Str} (hm : m e h = .ok (.str x) h1) : iVal m e h = .ok (stat (signs x)) h1 := by simp [iVal, hm]
theorem iVal_ref {m : EM} {e : AE} {h h1 : AH} {r : Nat} {ds : List D} (hm : m e h = .ok (.ref r) h1) (hr : h1[r]? = some (.lst ds)) : iVal m e h = .ok (live r ds.length) h1 := by simp [iVal, hm, hr]
theorem liveL_inv {g : GM} {b : SM} {e : AE} {h : AH} {r : Nat} {ds : List D} (P : Nat → AE → AH → Prop) (hP : ∀ i e h, P i e h → h[r]? = some (.lst ds)) (p : P 0 e h)
    (st : ∀ (i : Nat) (d : D) (e : AE) (h : AH), ds[i]? = some d → P i e h → ∃ e' h', (onlyNx (g d e h)).then b = .nx e' h' ∧ P (i + 1) e' h') : ∃ e' h', liveL r ds g b e h = .nx e' h' ∧ P ds.length e' h' :=
  forN_live P hP ds.length 0 e h (Nat.zero_add _) p st
theorem liveL_ret {g : GM} {b : SM} {e : AE} {h : AH} {r : Nat} {ds : List D} (P : Nat → AE → AH → Prop) (R : D → AH → Prop) (hP : ∀ i e h, P i e h → h[r]? = some (.lst ds)) (p : P 0 e h)
    (st : ∀ (i : Nat) (d : D) (e : AE) (h : AH), ds[i]? = some d → P i e h → (∃ e' h', (onlyNx (g d e h)).then b = .nx e' h' ∧ P (i + 1) e' h') ∨ ∃ d' h', (onlyNx (g d e h)).then b = .rt d' h' ∧ R d' h') :
    (∃ e' h', liveL r ds g b e h = .nx e' h' ∧ P ds.length e' h') ∨ ∃ d' h', liveL r ds g b e h = .rt d' h' ∧ R d' h' :=
  forN_live_ret P R hP ds.length 0 e h (Nat.zero_add _) p st
/-- a loop over 0 .. n - 1 -/
theorem loopN {k : Nat} {b : SM} (P : Nat → AE → AH → Prop) (n : Nat) {e : AE} {h : AH} (p : P 0 e h)
    (st : ∀ (i : Nat) (e : AE) (h : AH), i < n → P i e h → ∃ e' h', b (e.set k (some (dN i))) h = .nx e' h' ∧ P (i + 1) e' h') : ∃ e' h', sLoop (gVar k) b ((List.range n).map dN) e h = .nx e' h' ∧ P n e' h' := by
  have := loop_inv (g := gVar k) (b := b) P ((List.range n).map dN) 0 e h p fun i d e h hd hp => by
    rw [List.getElem?_map] at hd
    by_cases hi : i < n
    · rw [List.getElem?_range hi] at hd
      cases hd
      rw [Nat.zero_add] at hp
      obtain ⟨e', h', q, p'⟩ := st i e h hi hp
      exact ⟨e', h', q, by rwa [Nat.zero_add]⟩
    · rw [List.getElem?_eq_none (by simp; omega)] at hd; cases hd
  simpa using this
theorem loopN_ret {k : Nat} {b : SM} (P : Nat → AE → AH → Prop) (R : D → AH → Prop) (n : Nat) {e : AE} {h : AH} (p : P 0 e h)
    (st : ∀ (i : Nat) (e : AE) (h : AH), i < n → P i e h → (∃ e' h', b (e.set k (some (dN i))) h = .nx e' h' ∧ P (i + 1) e' h') ∨ ∃ d' h', b (e.set k (some (dN i))) h = .rt d' h' ∧ R d' h') :
    (∃ e' h', sLoop (gVar k) b ((List.range n).map dN) e h = .nx e' h' ∧ P n e' h') ∨ ∃ d' h', sLoop (gVar k) b ((List.range n).map dN) e h = .rt d' h' ∧ R d' h' := by
  have := loop_ret (g := gVar k) (b := b) P R ((List.range n).map dN) 0 e h p fun i d e h hd hp => by
    rw [List.getElem?_map] at hd
    by_cases hi : i < n
    · rw [List.getElem?_range hi] at hd
      cases hd
      rw [Nat.zero_add] at hp
      rcases st i e h hi hp with ⟨e', h', q, p'⟩ | z
      · exact .inl ⟨e', h', q, by rwa [Nat.zero_add]⟩
      · exact .inr z
    · rw [List.getElem?_eq_none (by simp; omega)] at hd; cases hd
  simpa using this
theorem beq_nat (a b : Nat) : ((a : Int) == (b : Int)) = (a == b) := by
  by_cases h : a = b
  · subst h; simp
  · have h2 : ¬ (a : Int) = (b : Int) := fun e => h (Int.ofNat.inj e)
    rw [beq_eq_false_iff_ne.mpr h, beq_eq_false_iff_ne.mpr h2]
@[simp high] theorem oEq_N (a b : Nat) (h : AH) : oEq (.int (a : Int)) (.int (b : Int)) h = .ok (.bl (a == b)) h := by rw [oEq_int, beq_nat]
@[simp high] theorem oNe_N (a b : Nat) (h : AH) : oNe (.int (a : Int)) (.int (b : Int)) h = .ok (.bl (!(a == b))) h := by rw [oNe_int, beq_nat]
theorem fits {n : Nat} (h : n ≤ 16777216) : Fits n := by unfold Fits; rw [sizeLine_eq]; exact h
theorem fitsL {n : Nat} (h : n < 16777216) : FitsL n := by unfold FitsL; rw [sizeLine_eq]; exact h
@[simp] theorem fits_0 : Fits 0 := fits (by decide)
@[simp] theorem fits_1 : Fits (0 + 1) := fits (by decide)
@[simp] theorem fits_2 : Fits (0 + 1 + 1) := fits (by decide)
@[simp] theorem fits_3 : Fits (0 + 1 + 1 + 1) := fits (by decide)
@[simp] theorem fits_1' : Fits 1 := fits (by decide)
@[simp] theorem fits_2' : Fits 2 := fits (by decide)
@[simp] theorem fits_3' : Fits 3 := fits (by decide)
@[simp] theorem fits_4' : Fits 4 := fits (by decide)
@[simp] theorem fits_5' : Fits 5 := fits (by decide)
@[simp] theorem fits_8' : Fits 8 := fits (by decide)
@[simp] theorem powOk_18 : PowOk 10 18 := ⟨by decide, by decide, by decide⟩
@[simp] theorem powOk_15 : PowOk 10 15 := ⟨by decide, by decide, by decide⟩
@[simp] theorem powOk_60 : PowOk 10 60 := ⟨by decide, by decide, by decide⟩
@[simp] theorem powOk_6 : PowOk 10 6 := ⟨by decide, by decide, by decide⟩
@[simp] theorem divOk_2 : DivOk 2 := divB (by decide) (by decide)
@[simp] theorem divOk_3 : DivOk 3 := divB (by decide) (by decide)
@[simp] theorem divOk_7 : DivOk 7 := divB (by decide) (by decide)
@[simp] theorem divOk_32 : DivOk 32 := divB (by decide) (by decide)
@[simp] theorem divOk_61 : DivOk 61 := divB (by decide) (by decide)
theorem set_self {α : Type} {h : List α} {a : Nat} {o : α} (ha : h[a]? = some o) : h.set a o = h := by
  apply List.ext_getElem?
  intro j
  by_cases hj : a = j
  · subst hj
    rw [List.getElem?_set_self (List.getElem?_eq_some_iff.mp ha).1, ha]
  · rw [List.getElem?_set_ne hj]
/-- the new things behind h -/
theorem app_get {α : Type} {h g : List α} {i : Nat} : (h ++ g)[h.length + i]? = g[i]? := by
  rw [List.getElem?_append_right (by omega)]; simp
@[simp] theorem app_get0 {α : Type} {h g : List α} {n : Nat} (hn : h.length = n := by simp) : (h ++ g)[n]? = g[0]? := by
  subst hn
  rw [List.getElem?_append_right (by omega)]; simp
theorem app_get_l {α : Type} {h g : List α} {a : Nat} {o : α} (ha : h[a]? = some o) : (h ++ g)[a]? = some o := by
  rw [List.getElem?_append_left (List.getElem?_eq_some_iff.mp ha).1]; exact ha
theorem app_set_l {α : Type} {h g : List α} {a : Nat} {o : α} (ha : a < h.length) : (h ++ g).set a o = h.set a o ++ g := List.set_append_left _ _ ha
theorem app_set {α : Type} {h g : List α} {i n : Nat} {o : α} (hn : h.length = n) : (h ++ g).set (n + i) o = h ++ g.set i o := by
  subst hn
  rw [List.set_append_right _ _ (by omega)]; simp
theorem getD_set {p : List Nat} {i j v : Nat} (hi : i < p.length) : (p.set i v).getD j 0 = if i = j then v else p.getD j 0 := by
  simp only [List.getD_eq_getElem?_getD]
  by_cases h : i = j
  · subst h
    rw [List.getElem?_set_self hi, if_pos rfl]; rfl
  · rw [List.getElem?_set_ne h, if_neg h]
end Rf

set_option maxHeartbeats 1000000
/-! Reckoning with the later parts (RN .. RC). -/
namespace Rf
open PySem L2
@[simp] theorem eDict_ (e : AE) (h : AH) : eDict e h = .ok (.ref h.length) (h ++ [.dK []]) := rfl
@[simp] theorem eCallK_ (n m : Nat) (idx : List Nat) (F : List D → AH → ER) (ml mk : LM) (e : AE) (h : AH) : eCallK n m idx F ml mk e h = (ml e h).then fun ds h1 => (mk e h1).then fun es h2 => if ds.length = n ∧ es.length = m then F (permK idx ds es) h2 else .stuck := rfl
theorem cSorted_lst {r : Nat} {ns : List Int} {h : AH} (e : h[r]? = some (.lst (ns.map D.int))) : cSorted [.ref r] h = .ok (.ref h.length) (h ++ [.lst ((intSort ns).map D.int)]) := by
  simp [cSorted, e]
theorem cSorted_dK {r : Nat} {kvs : List (Key × D)} {ns : List Int} {h : AH} (e : h[r]? = some (.dK kvs)) (k : keysI kvs = some ns) (l : ns.length < 64) : cSorted [.ref r] h = .ok (.ref h.length) (h ++ [.lst ((intSort ns).map D.int)]) := by
  simp [cSorted, e, k, l]
theorem oDGet_ref {r : Nat} {kvs : List (Key × D)} {k : Int} {d : D} {h : AH} (e : h[r]? = some (.dK kvs)) (v : valD kvs (.inl k) = some d) : oDGet (.ref r) (.int k) h = .ok d h := by
  simp [oDGet, dictOf, keyD, e, v]
theorem oDNotIn_ref {r : Nat} {kvs : List (Key × D)} {k : Int} {h : AH} (e : h[r]? = some (.dK kvs)) : oDNotIn (.int k) (.ref r) h = .ok (.bl (!(valD kvs (.inl k)).isSome)) h := by
  simp [oDNotIn, dictOf, keyD, e]
theorem oDIn_ref {r : Nat} {kvs : List (Key × D)} {k : Int} {h : AH} (e : h[r]? = some (.dK kvs)) : oDIn (.int k) (.ref r) h = .ok (.bl (valD kvs (.inl k)).isSome) h := by
  simp [oDIn, dictOf, keyD, e]
theorem putD_ref {r : Nat} {kvs : List (Key × D)} {k : Int} {v : D} {h : AH} (e : h[r]? = some (.dK kvs)) (l : kvs.length < sizeLine) : putD (.ref r) (.int k) v h = some (h.set r (.dK (setD kvs (.inl k) v))) := by
  simp [putD, dictOf, keyD, e, l]
theorem iEnum1_tup {m : EM} {e : AE} {h h1 : AH} {ds : List D} (hm : m e h = .ok (.tup ds) h1) : iEnum1 m e h = .ok (stat (numD ds)) h1 := by simp [iEnum1, hm]
theorem eRev_ref {m : EM} {e : AE} {h h1 : AH} {r : Nat} {ds : List D} (hm : m e h = .ok (.ref r) h1) (er : h1[r]? = some (.lst ds)) : eRev m e h = .ok (.ref h1.length) (h1 ++ [.lst ds.reverse]) := by simp [eRev, hm, Rf.listOf, er]
end Rf

set_option maxHeartbeats 1000000
/-! General lemmas first written for k11. -/
namespace Rf
open PySem L2
theorem getD_get {α : Type} {l : List α} {i : Nat} {d : α} (h : i < l.length) : l.getD i d = l[i] := by simp [h]
theorem getD_mem {α : Type} {l : List α} {i : Nat} {d : α} (h : i < l.length) : l.getD i d ∈ l := by rw [getD_get h]; exact List.getElem_mem h
theorem nodup_getD {α : Type} {l : List α} (nd : l.Nodup) {i j : Nat} {d : α} (hi : i < l.length) (hj : j < l.length) (h : l.getD i d = l.getD j d) : i = j := by
  rw [getD_get hi, getD_get hj] at h
  exact (List.getElem_inj nd).mp h
theorem mem_getD {α : Type} {l : List α} {x d : α} (h : x ∈ l) : ∃ i, i < l.length ∧ l.getD i d = x := by
  obtain ⟨i, hi, e⟩ := List.getElem_of_mem h
  exact ⟨i, hi, by rw [getD_get hi, e]⟩
theorem map_getD {α β : Type} {f : α → β} {l : List α} {i : Nat} {d : α} {e : β} (h : i < l.length) : (l.map f).getD i e = f (l.getD i d) := by
  rw [getD_get (by simpa using h), getD_get h, List.getElem_map]
theorem sub_length : ∀ {l1 l2 : List Nat}, l1.Nodup → (∀ x ∈ l1, x ∈ l2) → l1.length ≤ l2.length
  | [], _, _, _ => Nat.zero_le _
  | x :: l, l2, nd, h => by
    have hx := h x List.mem_cons_self
    have ih := sub_length (l1 := l) (l2 := l2.erase x) (List.nodup_cons.mp nd).2 fun y hy => by
      have : y ≠ x := fun e => (List.nodup_cons.mp nd).1 (e ▸ hy)
      exact (List.mem_erase_of_ne this).mpr (h y (List.mem_cons_of_mem _ hy))
    rw [List.length_erase_of_mem hx] at ih
    have := List.length_pos_of_mem hx
    rw [List.length_cons]; omega
theorem getD_app {p : List Nat} {j v : Nat} : (p ++ [v]).getD j 0 = if j = p.length then v else p.getD j 0 := by
  simp only [List.getD_eq_getElem?_getD]
  by_cases h : j < p.length
  · rw [List.getElem?_append_left h, if_neg (by omega)]
  · by_cases h2 : j = p.length
    · subst h2; simp
    · rw [if_neg h2, List.getElem?_append_right (by omega), List.getElem?_eq_none (by simp; omega), List.getElem?_eq_none (by omega)]
theorem mapM_toP {us : List Nat} {h : AH} {k : Nat} : (us.map dN).mapM (D.toP h k) = some (us.map fun u : Nat => PyData.int (u : Int)) := by
  induction us with
  | nil => rfl
  | cons u us ih => rw [List.map_cons, List.mapM_cons, ih]; unfold dN D.toP; cases k <;> rfl
theorem toP_list {us : List Nat} {h : AH} {r : Nat} (hr : h[r]? = some (.lst (us.map dN))) : (D.ref r).toP h 20 = some (.list (us.map fun u : Nat => PyData.int (u : Int))) := by
  unfold D.toP
  rw [hr]
  show ((us.map dN).mapM (D.toP h 19)).map PyData.list = _
  rw [mapM_toP]; rfl
theorem eqv_int {a b : Int} : PyData.eqv (.int a) (.int b) = (a == b) := by simp [PyData.eqv]
theorem any_N (us : List Nat) (k : Nat) : (us.map fun u : Nat => PyData.int (u : Int)).any (fun z => PyData.eqv z (.int (k : Int))) = us.contains k := by
  induction us with
  | nil => rfl
  | cons u us ih =>
    rw [List.map_cons, List.any_cons, List.contains_cons, ih, eqv_int, beq_nat, Bool.beq_comm (a := k)]
theorem notIn_N {us : List Nat} {h : AH} {r k : Nat} (hr : h[r]? = some (.lst (us.map dN))) : oNotIn (.int (k : Int)) (.ref r) h = .ok (.bl (!us.contains k)) h := by
  unfold oNotIn
  have e1 : (D.int (k : Int)).toP h 20 = some (.int k) := rfl
  have e2 : Rf.listOf h (.ref r) = some (us.map dN) := by simp [Rf.listOf, hr]
  rw [toP_list hr, e1, e2]
  simp only [any_N]
theorem eqvAll_N : ∀ {us vs : List Nat}, PyData.eqvAll (us.map fun u : Nat => PyData.int (u : Int)) (vs.map fun u : Nat => PyData.int (u : Int)) = decide (us = vs)
  | [], [] => by simp [PyData.eqvAll]
  | [], v :: vs => by simp [PyData.eqvAll]
  | u :: us, [] => by simp [PyData.eqvAll]
  | u :: us, v :: vs => by
    rw [List.map_cons, List.map_cons, PyData.eqvAll, eqvAll_N, eqv_int, beq_nat]
    by_cases h : u = v
    · subst h; simp
    · simp [h]
theorem oEq_L {us vs : List Nat} {h : AH} {r q : Nat} (hr : h[r]? = some (.lst (us.map dN))) (hq : h[q]? = some (.lst (vs.map dN))) : oEq (.ref r) (.ref q) h = .ok (.bl (decide (us = vs))) h := by
  unfold oEq
  rw [toP_list hr, toP_list hq]
  simp only [PyData.eqv, eqvAll_N]
@[simp] theorem oMul_ref_ (r : Nat) (i : Int) (h : AH) : oMul (.ref r) (.int i) h = (match h[r]? with
    | some (.lst xs) => if RepOk xs.length i then .ok (.ref h.length) (h ++ [.lst (List.replicate i.toNat xs).flatten]) else .stuck
    | _ => .stuck) := rfl
theorem repOk_1 {n : Nat} (h : n ≤ 16777216) : RepOk 1 (n : Int) := ⟨by omega, by omega, by rw [sizeLine_eq]; omega⟩
theorem rep_zero (n : Nat) : (List.replicate n [D.int 0]).flatten = (List.replicate n 0).map dN := by
  induction n with
  | zero => rfl
  | succ n ih => rw [List.replicate_succ, List.replicate_succ, List.flatten_cons, ih]; rfl
theorem loopM {α : Type} {φ : α → D} {k : Nat} {b : SM} (P : Nat → AE → AH → Prop) (xs : List α) {e : AE} {h : AH} (p : P 0 e h)
    (st : ∀ (i : Nat) (x : α) (e : AE) (h : AH), xs[i]? = some x → P i e h → ∃ e' h', b (e.set k (some (φ x))) h = .nx e' h' ∧ P (i + 1) e' h') : ∃ e' h', sLoop (gVar k) b (xs.map φ) e h = .nx e' h' ∧ P xs.length e' h' := by
  have := loop_inv (g := gVar k) (b := b) P (xs.map φ) 0 e h p fun i d e h hd hp => by
    rw [List.getElem?_map] at hd
    cases hx : xs[i]? with
    | none => rw [hx] at hd; cases hd
    | some x =>
      rw [hx] at hd
      cases hd
      rw [Nat.zero_add] at hp
      obtain ⟨e', h', q, p'⟩ := st i x e h hx hp
      exact ⟨e', h', q, by rwa [Nat.zero_add]⟩
  simpa using this
theorem loopM_ret {α : Type} {φ : α → D} {k : Nat} {b : SM} (P : Nat → AE → AH → Prop) (R : D → AH → Prop) (xs : List α) {e : AE} {h : AH} (p : P 0 e h)
    (st : ∀ (i : Nat) (x : α) (e : AE) (h : AH), xs[i]? = some x → P i e h → (∃ e' h', b (e.set k (some (φ x))) h = .nx e' h' ∧ P (i + 1) e' h') ∨ ∃ d' h', b (e.set k (some (φ x))) h = .rt d' h' ∧ R d' h') :
    (∃ e' h', sLoop (gVar k) b (xs.map φ) e h = .nx e' h' ∧ P xs.length e' h') ∨ ∃ d' h', sLoop (gVar k) b (xs.map φ) e h = .rt d' h' ∧ R d' h' := by
  have := loop_ret (g := gVar k) (b := b) P R (xs.map φ) 0 e h p fun i d e h hd hp => by
    rw [List.getElem?_map] at hd
    cases hx : xs[i]? with
    | none => rw [hx] at hd; cases hd
    | some x =>
      rw [hx] at hd
      cases hd
      rw [Nat.zero_add] at hp
      rcases st i x e h hx hp with ⟨e', h', q, p'⟩ | z
      · exact .inl ⟨e', h', q, by rwa [Nat.zero_add]⟩
      · exact .inr z
  simpa using this
theorem min_ex {P : Nat → Prop} (q : ∃ m, P m) : ∃ m, P m ∧ ∀ m', P m' → m ≤ m' := by
  obtain ⟨m, hm⟩ := q
  induction m using Nat.strongRecOn with
  | _ m ih =>
    by_cases z : ∃ k, k < m ∧ P k
    · obtain ⟨k, hk, pk⟩ := z
      exact ih k hk pk
    · exact ⟨m, hm, fun m' pm => Nat.le_of_not_lt fun lt => z ⟨m', lt, pm⟩⟩
open Classical in
theorem while_ix {c : EM} {b : SM} (P : Nat → AE → AH → Prop) (T : AE → AH → Prop)
    (st : ∀ m e h, P m e h → (∃ h1, c e h = .ok (.bl false) h1 ∧ T e h1) ∨ ∃ h1, c e h = .ok (.bl true) h1 ∧ ∃ e' h', b e h1 = .nx e' h' ∧ ∃ m', m' < m ∧ P m' e' h') (m : Nat) (e : AE) (h : AH) (p : P m e h) : ∃ e' h', sWhile c b e h = .nx e' h' ∧ T e' h' := by
  let μ : AE → AH → Nat := fun e h => if q : ∃ m, P m e h then Classical.choose (min_ex q) else 0
  have hμ : ∀ m e h, P m e h → P (μ e h) e h ∧ μ e h ≤ m := fun m e h pm => by
    have q : ∃ m, P m e h := ⟨m, pm⟩
    have e1 : μ e h = Classical.choose (min_ex q) := dif_pos q
    have := Classical.choose_spec (min_ex q)
    rw [e1]
    exact ⟨this.1, this.2 m pm⟩
  refine while_inv (P := fun e h => ∃ m, P m e h) μ T (fun e h pe => ?_) (μ e h) e h (Nat.le_refl _) ⟨m, p⟩
  obtain ⟨m0, pm0⟩ := pe
  have h1 := hμ m0 e h pm0
  rcases st _ e h h1.1 with z | ⟨h1', hc, e', h', hb, m', lt, p'⟩
  · exact .inl z
  · exact .inr ⟨h1', hc, e', h', hb, ⟨m', p'⟩, Nat.lt_of_le_of_lt (hμ m' e' h' p').2 lt⟩
theorem gc_old {h h' : AH} {r : Nat} (hr : r < h.length) : gc h (.ok (.ref r) h') = .ok (.ref r) h' := by
  unfold gc
  dsimp only
  split
  · rw [if_neg (by unfold D.pure; exact Bool.false_ne_true), if_neg (by omega)]
  · rfl
theorem cast_ite {c : Prop} [Decidable c] {a b : Nat} : ((if c then a else b : Nat) : Int) = if c then (a : Int) else (b : Int) := by split <;> rfl
theorem loop_brk {g : GM} {b : SM} (P : Nat → AE → AH → Prop) (B : AE → AH → Prop) : ∀ (ds : List D) (k : Nat) (e : AE) (h : AH), P k e h →
    (∀ (i : Nat) (d : D) (e : AE) (h : AH), ds[i]? = some d → P (k + i) e h → (∃ e' h', (onlyNx (g d e h)).then b = .nx e' h' ∧ P (k + i + 1) e' h') ∨ ∃ e' h', (onlyNx (g d e h)).then b = .bk e' h' ∧ B e' h') →
    ∃ e' h', sLoop g b ds e h = .nx e' h' ∧ (P (k + ds.length) e' h' ∨ B e' h')
  | [], k, e, h, p, _ => ⟨e, h, rfl, .inl p⟩
  | d :: ds, k, e, h, p, st => by
    rcases st 0 d e h rfl p with ⟨e1, h1, q, p1⟩ | ⟨e1, h1, q, r⟩
    · obtain ⟨e2, h2, q2, p2⟩ := loop_brk P B ds (k + 1) e1 h1 p1 fun i d' e' h' hd hp => by
          have hp' : P (k + (i + 1)) e' h' := by rwa [show k + (i + 1) = k + 1 + i by omega]
          rcases st (i + 1) d' e' h' (by simpa using hd) hp' with ⟨e3, h3, a, c⟩ | z
          · exact .inl ⟨e3, h3, a, by rwa [show k + 1 + i + 1 = k + (i + 1) + 1 by omega]⟩
          · exact .inr z
      refine ⟨e2, h2, ?_, ?_⟩
      · unfold sLoop
        rw [q]
        exact q2
      · rw [List.length_cons, show k + (ds.length + 1) = k + 1 + ds.length by omega]; exact p2
    · refine ⟨e1, h1, ?_, .inr r⟩
      unfold sLoop
      rw [q]
      rfl
theorem loopN_brk {k : Nat} {b : SM} (P : Nat → AE → AH → Prop) (B : AE → AH → Prop) (n : Nat) {e : AE} {h : AH} (p : P 0 e h)
    (st : ∀ (i : Nat) (e : AE) (h : AH), i < n → P i e h → (∃ e' h', b (e.set k (some (dN i))) h = .nx e' h' ∧ P (i + 1) e' h') ∨ ∃ e' h', b (e.set k (some (dN i))) h = .bk e' h' ∧ B e' h') : ∃ e' h', sLoop (gVar k) b ((List.range n).map dN) e h = .nx e' h' ∧ (P n e' h' ∨ B e' h') := by
  have := loop_brk (g := gVar k) (b := b) P B ((List.range n).map dN) 0 e h p fun i d e h hd hp => by
    rw [List.getElem?_map] at hd
    by_cases hi : i < n
    · rw [List.getElem?_range hi] at hd
      cases hd
      rw [Nat.zero_add] at hp
      rcases st i e h hi hp with ⟨e', h', q, p'⟩ | z
      · exact .inl ⟨e', h', q, by rwa [Nat.zero_add]⟩
      · exact .inr z
    · rw [List.getElem?_eq_none (by simp; omega)] at hd; cases hd
  simpa using this
@[simp] theorem ci_ii (i : Int) (h : AH) : cIsi [.int i, .ty "int"] h = .ok (.bl true) h := by rw [cIsi_int _ _ _ (by decide)]; rfl
@[simp] theorem ci_ib (i : Int) (h : AH) : cIsi [.int i, .ty "bool"] h = .ok (.bl false) h := by rw [cIsi_int _ _ _ (by decide)]; rfl
@[simp] theorem ci_tt (ds : List D) (h : AH) : cIsi [.tup ds, .ty "tuple"] h = .ok (.bl true) h := by rw [cIsi_tup _ _ _ (by decide)]; rfl
@[simp] theorem oAdd_tup (xs ys : List D) (h : AH) : oAdd (.tup xs) (.tup ys) h = if Fits (xs.length + ys.length) then .ok (.tup (xs ++ ys)) h else .stuck := rfl
theorem oAdd_ref {r q : Nat} {xs ys : List D} {h : AH} (hr : h[r]? = some (.lst xs)) (hq : h[q]? = some (.lst ys)) : oAdd (.ref r) (.ref q) h = if Fits (xs.length + ys.length) then .ok (.ref h.length) (h ++ [.lst (xs ++ ys)]) else .stuck := by
  simp [oAdd, hr, hq]
theorem lc_inv {α : Type} {φ : α → D} {k : Nat} {te : EM} {e0 : AE} {ds : List D} (Q : Nat → List D → AH → Prop) : ∀ (r : List α) (i : Nat) (acc : List D) (h : AH), ds.drop i = r.map φ → acc.length + r.length ≤ sizeLine → Q i acc h →
    (∀ (j : Nat) (x : α) (acc : List D) (h : AH), r[j]? = some x → Q (i + j) acc h → ∃ d h', te (e0.set k (some (φ x))) h = .ok d h' ∧ Q (i + j + 1) (acc ++ [d]) h') →
    ∃ acc' h', lcN (stat ds) (gVar k) (eC (.bl true)) te e0 (r.length + 1) i acc h = .inr (acc', h') ∧ Q (i + r.length) acc' h'
  | [], i, acc, h, hd, _, q, _ => by
    have hi : ds[i]? = none := by
      have q : ds.length - i = 0 := by simpa using congrArg List.length hd
      have : ds.length ≤ i := by omega
      exact List.getElem?_eq_none_iff.mpr this
    refine ⟨acc, h, ?_, q⟩
    unfold lcN
    simp [stat, hi]
  | x :: r, i, acc, h, hd, hl, q, st => by
    obtain ⟨hi, hr⟩ := drop_cons (show ds.drop i = φ x :: r.map φ from hd)
    rw [List.length_cons] at hl ⊢
    obtain ⟨d, h1, e1, q1⟩ := st 0 x acc h rfl q
    obtain ⟨acc', h', e2, q2⟩ := lc_inv (φ := φ) (k := k) (te := te) (e0 := e0) (ds := ds) Q r (i + 1) (acc ++ [d]) h1 hr (by simp; omega) q1 fun j y acc h hy hq => by
      have hq' : Q (i + (j + 1)) acc h := by rwa [show i + (j + 1) = i + 1 + j by omega]
      obtain ⟨d, h', e, q⟩ := st (j + 1) y acc h (by simpa using hy) hq'
      exact ⟨d, h', e, by rwa [show i + 1 + j + 1 = i + (j + 1) + 1 by omega]⟩
    refine ⟨acc', h', ?_, by rwa [show i + (r.length + 1) = i + 1 + r.length by omega]⟩
    unfold lcN
    simp only [stat, hi, gVar_, eC_, e1]
    rw [if_pos (show FitsL acc.length from (by omega : acc.length < sizeLine))]
    exact e2
theorem eLc_inv {α : Type} {φ : α → D} {k : Nat} {mi : IM} {te : EM} {vs : List Nat} {e : AE} {h h1 : AH} (xs : List α) (hm : mi e h = .ok (stat (xs.map φ)) h1) (hn : xs.length ≤ 1000) (Q : Nat → List D → AH → Prop) (q : Q 0 [] h1)
    (st : ∀ (i : Nat) (x : α) (acc : List D) (h : AH), xs[i]? = some x → Q i acc h → ∃ d h', te ((wipeE e vs).set k (some (φ x))) h = .ok d h' ∧ Q (i + 1) (acc ++ [d]) h') :
    ∃ acc h', eLc mi (gVar k) (eC (.bl true)) te vs e h = .ok (.ref h'.length) (h' ++ [.lst acc]) ∧ Q xs.length acc h' := by
  obtain ⟨acc, h', e1, q1⟩ := lc_inv (φ := φ) (k := k) (te := te) (e0 := wipeE e vs) (ds := xs.map φ) Q xs 0 [] h1 rfl (by rw [sizeLine_eq]; simp; omega) q fun j x acc h hx hq => by
    rw [Nat.zero_add] at hq ⊢
    exact st j x acc h hx hq
  refine ⟨acc, h', ?_, by simpa using q1⟩
  unfold eLc
  rw [hm]
  have hn : (stat (xs.map φ)).n = xs.length := by simp [stat]
  simp only [hn, e1]
theorem sqE {a b : SM} {e e1 : AE} {h h1 : AH} {d : D} (ha : a e h = .nx e1 h1) (hb : ∃ h', b e1 h1 = .rt d h') : ∃ h', sSeq a b e h = .rt d h' := by
  obtain ⟨h', q⟩ := hb
  exact ⟨h', by rw [sSeq_, ha]; exact q⟩
theorem gc_bl {h h' : AH} {b : Bool} : ∃ h'', gc h (.ok (.bl b) h') = .ok (.bl b) h'' := by
  unfold gc
  dsimp only
  split
  · exact ⟨_, by rw [if_pos (by rfl)]⟩
  · exact ⟨_, rfl⟩
end Rf

set_option maxHeartbeats 1000000
/-! Perms as lists, labels, merges (first written for k11). -/
namespace Rf
open PySem L2
/-- a perm of n points -/
structure IsP (n : Nat) (p : List Nat) : Prop where
  len : p.length = n
  lt : ∀ i, i < n → p.getD i 0 < n
  inj : ∀ i j, i < n → j < n → p.getD i 0 = p.getD j 0 → i = j
theorem IsP.swap {n : Nat} {p : List Nat} (P : IsP n p) {a b : Nat} (ha : a < n) (hb : b < n) : IsP n ((p.set a (p.getD b 0)).set b (p.getD a 0)) := by
  have la : a < p.length := by rw [P.len]; exact ha
  have lb : b < (p.set a (p.getD b 0)).length := by rw [List.length_set, P.len]; exact hb
  have e : ∀ j, ((p.set a (p.getD b 0)).set b (p.getD a 0)).getD j 0 = p.getD (if b = j then a else if a = j then b else j) 0 := fun j => by
    rw [getD_set lb, getD_set la]
    split
    · rfl
    · split <;> rfl
  have l : ∀ j, j < n → (if b = j then a else if a = j then b else j) < n := fun j hj => by
    split
    · exact ha
    · split
      · exact hb
      · exact hj
  refine ⟨by simp [P.len], fun i hi => by rw [e]; exact P.lt _ (l i hi), fun i j hi hj h => ?_⟩
  rw [e, e] at h
  have q := P.inj _ _ (l i hi) (l j hj) h
  split at q <;> split at q <;> first
    | omega
    | (split at q <;> first
      | omega
      | (split at q <;> omega))
theorem IsP.range (n : Nat) : IsP n (List.range n) := by
  have e : ∀ i, i < n → (List.range n).getD i 0 = i := fun i hi => by simp [hi]
  exact ⟨by simp, fun i hi => by rw [e i hi]; exact hi, fun i j hi hj h => by rw [e i hi, e j hj] at h; exact h⟩
def Canon (L : List Nat) : Prop := ∀ j, j < L.length → L.getD j 0 ≤ j ∧ L.getD (L.getD j 0) 0 = L.getD j 0
theorem ext_getD {L M : List Nat} (l : L.length = M.length) (h : ∀ i, i < L.length → L.getD i 0 = M.getD i 0) : L = M := by
  apply List.ext_getElem l
  intro i h1 h2
  have := h i h1
  rwa [getD_get h1, getD_get h2] at this
theorem range_D {n i : Nat} (hi : i < n) : (List.range n).getD i 0 = i := by simp [hi]
theorem range_canon (n : Nat) : Canon (List.range n) := fun i hi => by
  rw [List.length_range] at hi
  rw [range_D hi, range_D hi]; exact ⟨Nat.le_refl _, rfl⟩
theorem range_eq {n : Nat} {f : Nat → Nat} {i j : Nat} (hi : i < n) (hj : j < n) (h : (List.range n).getD i 0 = (List.range n).getD j 0) : f i = f j := by
  rw [range_D hi, range_D hj] at h; rw [h]
/-- one merge -/
def mrg (L : List Nat) (a b : Nat) : List Nat := L.map fun c => if c = (if L.getD b 0 > L.getD a 0 then L.getD b 0 else L.getD a 0) then (if L.getD b 0 < L.getD a 0 then L.getD b 0 else L.getD a 0) else c
def cnt (L : List Nat) : Nat := ((List.range L.length).filter fun i => L.getD i 0 == i).length
section
variable {L : List Nat} {a b n : Nat}
theorem mrg_len : (mrg L a b).length = L.length := by simp [mrg]
theorem mrg_at {i : Nat} (hi : i < L.length) : (mrg L a b).getD i 0 = if L.getD i 0 = (if L.getD b 0 > L.getD a 0 then L.getD b 0 else L.getD a 0) then (if L.getD b 0 < L.getD a 0 then L.getD b 0 else L.getD a 0) else L.getD i 0 := by
  unfold mrg; rw [map_getD (d := 0) hi]
theorem mrg_lh : ∃ lo hi, lo ≤ hi ∧ ((lo = L.getD a 0 ∧ hi = L.getD b 0) ∨ (lo = L.getD b 0 ∧ hi = L.getD a 0)) ∧ ∀ i, i < L.length → (mrg L a b).getD i 0 = if L.getD i 0 = hi then lo else L.getD i 0 := by
  by_cases q : L.getD b 0 < L.getD a 0
  · refine ⟨L.getD b 0, L.getD a 0, by omega, .inr ⟨rfl, rfl⟩, fun i hi => ?_⟩
    rw [mrg_at hi, if_neg (show ¬ L.getD b 0 > L.getD a 0 by omega), if_pos q]
  · refine ⟨L.getD a 0, L.getD b 0, by omega, .inl ⟨rfl, rfl⟩, fun i hi => ?_⟩
    rw [mrg_at hi, if_neg q]
    by_cases q2 : L.getD b 0 > L.getD a 0
    · rw [if_pos q2]
    · rw [if_neg q2]
      have : L.getD a 0 = L.getD b 0 := by omega
      rw [this]
theorem mrg_same (h : L.getD a 0 = L.getD b 0) : mrg L a b = L := ext_getD mrg_len fun i hi => by
  rw [mrg_len] at hi
  obtain ⟨lo, up, h1, h2, h3⟩ := mrg_lh (L := L) (a := a) (b := b)
  rw [h3 i hi]
  split <;> omega
theorem mrg_canon (C : Canon L) (ha : a < L.length) (hb : b < L.length) : Canon (mrg L a b) := fun i hi => by
  rw [mrg_len] at hi
  have ci := C i hi
  have ca := C a ha
  have cb := C b hb
  obtain ⟨lo, up, h1, h2, h3⟩ := mrg_lh (L := L) (a := a) (b := b)
  have hl : lo < L.length ∧ L.getD lo 0 = lo := by
    rcases h2 with ⟨rfl, _⟩ | ⟨rfl, _⟩
    · exact ⟨by omega, ca.2⟩
    · exact ⟨by omega, cb.2⟩
  rw [h3 i hi]
  by_cases q : L.getD i 0 = up
  · rw [if_pos q, h3 _ hl.1, hl.2]
    refine ⟨by omega, ?_⟩
    split <;> rfl
  · rw [if_neg q, h3 _ (by omega), ci.2, if_neg q]
    exact ⟨ci.1, rfl⟩
/-- what a merge relates -/
theorem mrg_eq {i j : Nat} (hi : i < L.length) (hj : j < L.length) (h : (mrg L a b).getD i 0 = (mrg L a b).getD j 0) :
    L.getD i 0 = L.getD j 0 ∨ (L.getD i 0 = L.getD a 0 ∧ L.getD j 0 = L.getD b 0) ∨ (L.getD i 0 = L.getD b 0 ∧ L.getD j 0 = L.getD a 0) := by
  obtain ⟨lo, up, h1, h2, h3⟩ := mrg_lh (L := L) (a := a) (b := b)
  rw [h3 i hi, h3 j hj] at h
  split at h <;> split at h <;> omega
theorem mrg_keep {i j : Nat} (hi : i < L.length) (hj : j < L.length) (h : L.getD i 0 = L.getD j 0) : (mrg L a b).getD i 0 = (mrg L a b).getD j 0 := by
  rw [mrg_at hi, mrg_at hj, h]
theorem mrg_do (ha : a < L.length) (hb : b < L.length) : (mrg L a b).getD a 0 = (mrg L a b).getD b 0 := by
  obtain ⟨lo, up, h1, h2, h3⟩ := mrg_lh (L := L) (a := a) (b := b)
  rw [h3 a ha, h3 b hb]
  split <;> split <;> omega
theorem cnt_le : cnt L ≤ L.length := Nat.le_trans (List.length_filter_le _ _) (by simp)
theorem cnt_pos (C : Canon L) (h : 1 ≤ L.length) : 1 ≤ cnt L := by
  have := C 0 (by omega)
  exact List.length_pos_of_mem (a := 0) (List.mem_filter.mpr ⟨List.mem_range.mpr (by omega), by simp only [beq_iff_eq]; omega⟩)
/-- a merge of two classes leaves fewer -/
theorem mrg_cnt (C : Canon L) (ha : a < L.length) (hb : b < L.length) (h : L.getD a 0 ≠ L.getD b 0) : cnt (mrg L a b) + 1 ≤ cnt L := by
  have ca := C a ha
  have cb := C b hb
  obtain ⟨lo, M, h1', h2', h3⟩ := mrg_lh (L := L) (a := a) (b := b)
  have hMl : M < L.length := by omega
  have hMM : L.getD M 0 = M := by rcases h2' with ⟨_, e⟩ | ⟨_, e⟩ <;> rw [e] <;> omega
  have hMm : (mrg L a b).getD M 0 ≠ M := by
    rw [h3 M hMl, if_pos hMM]
    omega
  have := sub_length (l1 := M :: ((List.range (mrg L a b).length).filter fun i => (mrg L a b).getD i 0 == i)) (l2 := (List.range L.length).filter fun i => L.getD i 0 == i)
    (List.nodup_cons.mpr ⟨fun hm => hMm (by simpa using (List.mem_filter.mp hm).2), List.Pairwise.filter _ List.nodup_range⟩) fun x hx => by
      rcases List.mem_cons.mp hx with rfl | hx
      · exact List.mem_filter.mpr ⟨List.mem_range.mpr hMl, by simpa using hMM⟩
      · obtain ⟨h1, h2⟩ := List.mem_filter.mp hx
        rw [List.mem_range, mrg_len] at h1
        rw [beq_iff_eq] at h2
        refine List.mem_filter.mpr ⟨List.mem_range.mpr h1, ?_⟩
        rw [beq_iff_eq]
        rw [h3 x h1] at h2
        have cx := C x h1
        have ra := C a ha
        split at h2
        · rename_i e
          have lx : L.getD lo 0 = lo := by rcases h2' with ⟨e, _⟩ | ⟨e, _⟩ <;> rw [e] <;> omega
          rw [h2] at lx
          exact lx
        · exact h2
  rw [List.length_cons] at this
  exact this
end
/-! a perm meets each point; inverses are one -/
theorem IsP.surj {n : Nat} {p : List Nat} (P : IsP n p) {y : Nat} (hy : y < n) : ∃ i, i < n ∧ p.getD i 0 = y := by
  apply Classical.byContradiction
  intro no
  have nd : ((List.range n).map fun i => p.getD i 0).Nodup := by
    show List.Pairwise _ _
    rw [List.pairwise_map]
    exact List.nodup_range.imp_of_mem fun {a b} ha hb ne e => ne (P.inj a b (List.mem_range.mp ha) (List.mem_range.mp hb) e)
  have l := sub_length nd (l2 := (List.range n).erase y) fun x hx => by
    obtain ⟨i, hi, rfl⟩ := List.mem_map.mp hx
    rw [List.mem_range] at hi
    exact (List.mem_erase_of_ne fun e => no ⟨i, hi, e⟩).mpr (List.mem_range.mpr (P.lt i hi))
  rw [List.length_erase_of_mem (List.mem_range.mpr hy)] at l
  simp at l
  omega
def Inv (n : Nat) (p q : List Nat) : Prop := q.length = n ∧ ∀ i, i < n → q.getD (p.getD i 0) 0 = i
theorem Inv.uniq {n : Nat} {p q q' : List Nat} (P : IsP n p) (a : Inv n p q) (b : Inv n p q') : q = q' := ext_getD (by rw [a.1, b.1]) fun y hy => by
  obtain ⟨i, hi, rfl⟩ := P.surj (y := y) (by rw [← a.1]; exact hy)
  rw [a.2 i hi, b.2 i hi]
theorem Inv.isP {n : Nat} {p q : List Nat} (P : IsP n p) (a : Inv n p q) : IsP n q :=
  ⟨a.1, fun y hy => by
    obtain ⟨i, hi, rfl⟩ := P.surj hy
    rw [a.2 i hi]; exact hi, fun y z hy hz h => by
    obtain ⟨i, hi, rfl⟩ := P.surj hy
    obtain ⟨j, hj, rfl⟩ := P.surj hz
    rw [a.2 i hi, a.2 j hj] at h
    rw [h]⟩
theorem Inv.back {n : Nat} {p q : List Nat} (P : IsP n p) (a : Inv n p q) {y : Nat} (hy : y < n) : p.getD (q.getD y 0) 0 = y := by
  obtain ⟨i, hi, rfl⟩ := P.surj hy
  rw [a.2 i hi]
/-! [f x y for x in xs for y in ys], nothing else changes -/
theorem lcI_map {β : Type} {ψ : β → D} {k : Nat} {te : EM} {e0 : AE} {h1 : AH} (f : β → D) {ds : List D} : ∀ (r : List β) (i : Nat) (acc : List D), ds.drop i = r.map ψ → acc.length + r.length ≤ sizeLine →
    (∀ y ∈ r, ∀ acc, te (e0.set k (some (ψ y))) (h1 ++ [.lst acc]) = .ok (f y) (h1 ++ [.lst acc])) →
    lcI (stat ds) (gVar k) (eC (.bl true)) te e0 h1.length (r.length + 1) i (h1 ++ [.lst acc]) = some (h1 ++ [.lst (acc ++ r.map f)])
  | [], i, acc, hd, _, _ => by
    have hi : ds[i]? = none := by
      have q : ds.length - i = 0 := by simpa using congrArg List.length hd
      have : ds.length ≤ i := by omega
      exact List.getElem?_eq_none_iff.mpr this
    unfold lcI
    simp [stat, hi]
  | y :: r, i, acc, hd, hl, hf => by
    obtain ⟨hi, hr⟩ := drop_cons (show ds.drop i = ψ y :: r.map ψ from hd)
    rw [List.length_cons] at hl ⊢
    have ih := lcI_map (ψ := ψ) (k := k) (te := te) (e0 := e0) (h1 := h1) f (ds := ds) r (i + 1) (acc ++ [f y]) hr (by simp; omega) fun y hy => hf y (List.mem_cons_of_mem _ hy)
    unfold lcI
    have ap : app1 h1.length (f y) (h1 ++ [.lst acc]) = some (h1 ++ [.lst (acc ++ [f y])]) := by
      unfold app1
      rw [getLast_app]
      dsimp only
      rw [if_pos (show FitsL acc.length from (by omega : acc.length < sizeLine))]
      simp
    simp only [stat, hi, gVar_, eC_, hf y List.mem_cons_self acc, ap]
    simp only [stat] at ih
    rw [ih, List.map_cons, List.append_assoc]; rfl
theorem lcO_map {α β : Type} {φ : α → D} {ψ : β → D} {k k1 : Nat} {mi1 : IM} {te : EM} {vs1 : List Nat} {e0 : AE} {h1 : AH} (ys : α → List β) (f : α → β → D) {ds : List D} : ∀ (r : List α) (i : Nat) (acc : List D), ds.drop i = r.map φ → acc.length + (r.flatMap fun x => (ys x).map (f x)).length ≤ sizeLine →
    (∀ x ∈ r, ∀ acc, mi1 (e0.set k (some (φ x))) (h1 ++ [.lst acc]) = .ok (stat ((ys x).map ψ)) (h1 ++ [.lst acc])) →
    (∀ x ∈ r, ∀ y ∈ ys x, ∀ acc, te ((wipeE (e0.set k (some (φ x))) vs1).set k1 (some (ψ y))) (h1 ++ [.lst acc]) = .ok (f x y) (h1 ++ [.lst acc])) →
    lcO (stat ds) (gVar k) (eC (.bl true)) mi1 (gVar k1) (eC (.bl true)) te vs1 e0 h1.length (r.length + 1) i (h1 ++ [.lst acc]) = some (h1 ++ [.lst (acc ++ r.flatMap fun x => (ys x).map (f x))])
  | [], i, acc, hd, _, _, _ => by
    have hi : ds[i]? = none := by
      have q : ds.length - i = 0 := by simpa using congrArg List.length hd
      have : ds.length ≤ i := by omega
      exact List.getElem?_eq_none_iff.mpr this
    unfold lcO
    simp [stat, hi]
  | x :: r, i, acc, hd, hl, hm, hf => by
    obtain ⟨hi, hr⟩ := drop_cons (show ds.drop i = φ x :: r.map φ from hd)
    rw [List.flatMap_cons, List.length_append, List.length_map] at hl
    rw [List.length_cons]
    have ih := lcO_map (φ := φ) (ψ := ψ) (k := k) (k1 := k1) (mi1 := mi1) (te := te) (vs1 := vs1) (e0 := e0) (h1 := h1) ys f (ds := ds) r (i + 1) (acc ++ (ys x).map (f x)) hr (by simp at hl ⊢; omega) (fun y hy => hm y (List.mem_cons_of_mem _ hy)) fun y hy => hf y (List.mem_cons_of_mem _ hy)
    have ii := lcI_map (ψ := ψ) (k := k1) (te := te) (e0 := wipeE (e0.set k (some (φ x))) vs1) (h1 := h1) (f x) (ds := (ys x).map ψ) (ys x) 0 acc rfl (by omega) (hf x List.mem_cons_self)
    unfold lcO
    simp only [stat, hi, gVar_, eC_, hm x List.mem_cons_self acc]
    have hn : ((ys x).map ψ).length = (ys x).length := by simp
    simp only [stat, hn] at ii ⊢
    rw [ii]
    dsimp only
    simp only [stat] at ih
    rw [ih, List.flatMap_cons, List.append_assoc]
theorem eLc2_map {α β : Type} {φ : α → D} {ψ : β → D} {k k1 : Nat} {mi mi1 : IM} {te : EM} {vs vs1 : List Nat} {e : AE} {h h1 : AH} (xs : List α) (ys : α → List β) (f : α → β → D) (hm : mi e h = .ok (stat (xs.map φ)) h1) (hl : (xs.flatMap fun x => (ys x).map (f x)).length ≤ sizeLine)
    (hi : ∀ x ∈ xs, ∀ acc, mi1 ((wipeE e vs).set k (some (φ x))) (h1 ++ [.lst acc]) = .ok (stat ((ys x).map ψ)) (h1 ++ [.lst acc]))
    (hf : ∀ x ∈ xs, ∀ y ∈ ys x, ∀ acc, te ((wipeE ((wipeE e vs).set k (some (φ x))) vs1).set k1 (some (ψ y))) (h1 ++ [.lst acc]) = .ok (f x y) (h1 ++ [.lst acc])) :
    eLc2 mi (gVar k) (eC (.bl true)) mi1 (gVar k1) (eC (.bl true)) te vs vs1 e h = .ok (.ref h1.length) (h1 ++ [.lst (xs.flatMap fun x => (ys x).map (f x))]) := by
  unfold eLc2
  rw [hm]
  have := lcO_map (φ := φ) (ψ := ψ) (k := k) (k1 := k1) (mi1 := mi1) (te := te) (vs1 := vs1) (e0 := wipeE e vs) (h1 := h1) ys f (ds := xs.map φ) xs 0 [] rfl (by simpa using hl) hi hf
  have hn : (stat (xs.map φ)).n = xs.length := by simp [stat]
  simp only [hn, this, List.nil_append]
end Rf

set_option maxHeartbeats 1000000
/-! Dicts whose keys are numbers 0, 1, ..; sorted of numbers; what a deep list leaves. -/
namespace Rf
open PySem L2
section
variable {α : Type} {f : α → D} {ks : List (Nat × α)} {y z : Nat} {a : α}
def encK (f : α → D) (ks : List (Nat × α)) : List (Key × D) := ks.map fun p => (.inl (p.1 : Int), f p.2)
def lk (ks : List (Nat × α)) (y : Nat) : Option α := (ks.find? fun p => p.1 == y).map (·.2)
def stK (ks : List (Nat × α)) (y : Nat) (a : α) : List (Nat × α) := if (ks.any fun p => p.1 == y) = true then ks.map (fun p => if p.1 = y then (p.1, a) else p) else ks ++ [(y, a)]
theorem inl_eq {y z : Nat} : ((Sum.inl (y : Int) : Key) = Sum.inl (z : Int)) ↔ y = z := by
  constructor
  · intro h; have := Sum.inl.inj h; omega
  · rintro rfl; rfl
theorem encK_len : (encK f ks).length = ks.length := by simp [encK]
theorem valD_enc : valD (encK f ks) (.inl (y : Int)) = (lk ks y).map f := by
  unfold valD lk encK
  induction ks with
  | nil => rfl
  | cons p ks ih =>
    rw [List.map_cons]
    by_cases h : p.1 = y
    · rw [List.find?_cons_of_pos (by simp [inl_eq, h]), List.find?_cons_of_pos (by simpa using h)]; rfl
    · rw [List.find?_cons_of_neg (by simp only [decide_eq_true_eq, inl_eq]; exact h), List.find?_cons_of_neg (by simpa using h)]; exact ih
theorem any_enc : ((encK f ks).any fun kv => decide (kv.1 = .inl (y : Int))) = ks.any fun p => p.1 == y := by
  unfold encK
  rw [List.any_map]
  congr 1
  funext p
  by_cases h : p.1 = y
  · simp [Function.comp, h]
  · have : ¬ ((Sum.inl (p.1 : Int) : Key) = Sum.inl (y : Int)) := fun e => h (inl_eq.mp e)
    simp [Function.comp, h, this]
theorem setD_enc : setD (encK f ks) (.inl (y : Int)) (f a) = encK f (stK ks y a) := by
  unfold setD stK
  rw [any_enc]
  by_cases q : (ks.any fun p => p.1 == y) = true
  · rw [if_pos q, if_pos q]
    unfold encK
    rw [List.map_map, List.map_map]
    apply List.map_congr_left
    intro p _
    by_cases h : p.1 = y
    · simp [Function.comp, h]
    · have : ¬ ((Sum.inl (p.1 : Int) : Key) = Sum.inl (y : Int)) := fun e => h (inl_eq.mp e)
      simp [Function.comp, h, this]
  · rw [if_neg q, if_neg q]
    unfold encK
    rw [List.map_append]; rfl
theorem lk_none : lk ks y = none ↔ y ∉ ks.map (·.1) := by
  unfold lk
  rw [Option.map_eq_none_iff, List.find?_eq_none]
  constructor
  · intro h m
    obtain ⟨p, hp, e⟩ := List.mem_map.mp m
    exact h p hp (by simpa using e)
  · intro h p hp e
    exact h (List.mem_map.mpr ⟨p, hp, by simpa using e⟩)
theorem lk_some_mem (h : lk ks y = some a) : y ∈ ks.map (·.1) := by
  apply Classical.byContradiction
  intro q
  rw [lk_none.mpr q] at h
  cases h
theorem lk_stK : lk (stK ks y a) z = if z = y then some a else lk ks z := by
  unfold stK
  by_cases q : (ks.any fun p => p.1 == y) = true
  · rw [if_pos q]
    induction ks with
    | nil => simp at q
    | cons p ks ih =>
      unfold lk at *
      rw [List.map_cons]
      by_cases h : p.1 = y
      · rw [if_pos h]
        by_cases hz : z = y
        · rw [List.find?_cons_of_pos (by simp [h, hz]), if_pos hz]; rfl
        · rw [List.find?_cons_of_neg (by simp [h]; exact fun e => hz e.symm), if_neg hz, List.find?_cons_of_neg (by simp [h]; exact fun e => hz e.symm)]
          by_cases q2 : (ks.any fun p => p.1 == y) = true
          · rw [ih q2, if_neg hz]
          · congr 1
            have : ks.map (fun p => if p.1 = y then (p.1, a) else p) = ks := by
              rw [List.map_congr_left (g := id), List.map_id]
              intro p' hp'
              have : ¬ p'.1 = y := fun e => q2 (List.any_eq_true.mpr ⟨p', hp', by simpa using e⟩)
              simp [this]
            rw [this]
      · rw [if_neg h]
        have q2 : (ks.any fun p => p.1 == y) = true := by simpa [h] using q
        by_cases hz : p.1 = z
        · rw [List.find?_cons_of_pos (by simpa using hz), List.find?_cons_of_pos (by simpa using hz), if_neg (fun e => h (by rw [hz, e]))]
        · rw [List.find?_cons_of_neg (by simpa using hz), List.find?_cons_of_neg (by simpa using hz)]
          exact ih q2
  · rw [if_neg q]
    have nf : ks.find? (fun p => p.1 == y) = none := by
      rw [List.find?_eq_none]
      intro p hp e
      exact q (List.any_eq_true.mpr ⟨p, hp, e⟩)
    unfold lk
    rw [List.find?_append]
    by_cases hz : z = y
    · subst hz; rw [nf, if_pos rfl]; simp
    · rw [if_neg hz]
      have : [(y, a)].find? (fun p => p.1 == z) = none := by simp; exact fun e => hz e.symm
      rw [this, Option.or_none]
theorem keys_stK : (stK ks y a).map (·.1) = if y ∈ ks.map (·.1) then ks.map (·.1) else ks.map (·.1) ++ [y] := by
  unfold stK
  by_cases q : (ks.any fun p => p.1 == y) = true
  · rw [if_pos q, if_pos (by
      obtain ⟨p, hp, e⟩ := List.any_eq_true.mp q
      exact List.mem_map.mpr ⟨p, hp, by simpa using e⟩), List.map_map]
    apply List.map_congr_left
    intro p _
    by_cases h : p.1 = y <;> simp [Function.comp, h]
  · rw [if_neg q, if_neg (fun m => q (by
      obtain ⟨p, hp, e⟩ := List.mem_map.mp m
      exact List.any_eq_true.mpr ⟨p, hp, by simpa using e⟩)), List.map_append]; rfl
theorem keys_nodup (h : (ks.map (·.1)).Nodup) : ((stK ks y a).map (·.1)).Nodup := by
  rw [keys_stK]
  split
  · exact h
  · rename_i q
    exact List.nodup_append.mpr ⟨h, by simp, fun u hu v hv => by rw [List.mem_singleton] at hv; subst hv; exact fun e => q (e ▸ hu)⟩
theorem keysI_enc : keysI (encK f ks) = some ((ks.map (·.1)).map fun x : Nat => (x : Int)) := by
  unfold encK
  induction ks with
  | nil => rfl
  | cons p ks ih =>
    rw [List.map_cons, keysI, ih]; rfl
end
theorem IsP.nodup {n : Nat} {p : List Nat} (P : IsP n p) : p.Nodup := by
  show List.Pairwise _ _
  rw [List.pairwise_iff_getElem]
  intro i j hi hj lt e
  have := P.inj i j (by rw [← P.len]; exact hi) (by rw [← P.len]; exact hj) (by rw [getD_get hi, getD_get hj]; exact e)
  omega
/-- a perm made from 0, 1, .. by sending the points of S to points of S -/
theorem patchP {n m : Nat} {img : List Nat} (l : img.length = n) (S T : Nat → Nat) (hS : ∀ a, a < m → S a < n) (iS : ∀ a b, a < m → b < m → S a = S b → a = b) (iT : ∀ a b, a < m → b < m → T a = T b → a = b) (TS : ∀ a, a < m → ∃ b, b < m ∧ T a = S b)
    (h1 : ∀ a, a < m → img.getD (S a) 0 = T a) (h2 : ∀ x, x < n → (∀ a, a < m → S a ≠ x) → img.getD x 0 = x) : IsP n img := by
  refine ⟨l, fun x hx => ?_, fun x y hx hy e => ?_⟩
  · by_cases q : ∃ a, a < m ∧ S a = x
    · obtain ⟨a, ha, rfl⟩ := q
      rw [h1 a ha]
      obtain ⟨b, hb, e⟩ := TS a ha
      rw [e]; exact hS b hb
    · rw [h2 x hx fun a ha e => q ⟨a, ha, e⟩]; exact hx
  · by_cases q : ∃ a, a < m ∧ S a = x
    · obtain ⟨a, ha, rfl⟩ := q
      rw [h1 a ha] at e
      by_cases q2 : ∃ b, b < m ∧ S b = y
      · obtain ⟨b, hb, rfl⟩ := q2
        rw [h1 b hb] at e
        rw [iT a b ha hb e]
      · rw [h2 y hy fun a ha e => q2 ⟨a, ha, e⟩] at e
        obtain ⟨b, hb, e'⟩ := TS a ha
        exact absurd ⟨b, hb, by rw [← e', e]⟩ q2
    · rw [h2 x hx fun a ha e => q ⟨a, ha, e⟩] at e
      by_cases q2 : ∃ b, b < m ∧ S b = y
      · obtain ⟨b, hb, rfl⟩ := q2
        rw [h1 b hb] at e
        obtain ⟨c, hc, e'⟩ := TS b hb
        exact absurd ⟨c, hc, by rw [← e', e]⟩ q
      · rw [h2 y hy fun a ha e => q2 ⟨a, ha, e⟩] at e
        exact e
theorem dN_ints (L : List Nat) : L.map dN = (L.map fun x : Nat => (x : Int)).map D.int := by rw [List.map_map]; rfl
/-- sorted of numbers -/
theorem natSort (ks : List Nat) : ∃ L : List Nat, L.Perm ks ∧ L.Pairwise (· ≤ ·) ∧ (intSort (ks.map fun x : Nat => (x : Int))).map D.int = L.map dN := by
  have p := List.mergeSort_perm ks (fun a b => decide (a ≤ b))
  have u : (ks.mergeSort fun a b => decide (a ≤ b)).Pairwise (· ≤ ·) := by
    have := List.pairwise_mergeSort (le := fun a b : Nat => decide (a ≤ b)) (fun a b c h1 h2 => by simp at *; omega) (fun a b => by simp; omega) ks
    exact this.imp fun h => by simpa using h
  refine ⟨_, p, u, ?_⟩
  rw [dN_ints]
  congr 1
  refine (intSort_eq (p.map _) ?_).symm
  rw [List.pairwise_map]
  exact u.imp fun h => by omega
theorem gc_deep {h h' : AH} {i : Nat} {o : AO} (e : h'[i]? = some o) (f : o.flat = false) : gc h (.ok (.ref i) h') = .ok (.ref i) h' := by
  unfold gc
  dsimp only
  split
  · rw [if_neg (by unfold D.pure; exact Bool.false_ne_true), if_neg]
    rintro ⟨_, o', e', f'⟩
    rw [e] at e'
    cases e'
    rw [f] at f'
    cases f'
  · rfl
@[simp] theorem eChain_ (g g' : D → D → AH → ER) (a b c : EM) (env : AE) (h : AH) : eChain g g' a b c env h = (a env h).then fun d1 h1 => (b env h1).then fun d2 h2 => (g d1 d2 h2).then fun z h3 => onE z ((c env h3).then fun d3 h4 => g' d2 d3 h4) (.ok (.bl false) h3) := by
  unfold eChain onE
  rfl
@[simp] theorem oLt_tupN (u v : List Nat) (h : AH) : oLt (.tup (u.map dN)) (.tup (v.map dN)) h = .ok (.bl (HT.lexLt (u.map fun x : Nat => (x : Int)) (v.map fun x : Nat => (x : Int)))) h := by
  rw [dN_ints, dN_ints]
  simp only [oLt, intsOf_map]
theorem sqR {a b : SM} {e e1 : AE} {h h1 : AH} {R : D → AH → Prop} (ha : a e h = .nx e1 h1) (hb : ∃ d h', b e1 h1 = .rt d h' ∧ R d h') : ∃ d h', sSeq a b e h = .rt d h' ∧ R d h' := by
  obtain ⟨d, h', q, r⟩ := hb
  exact ⟨d, h', by rw [sSeq_, ha]; exact q, r⟩
theorem sqX {a b : SM} {e : AE} {h : AH} {R : D → AH → Prop} (ha : ∃ d h', a e h = .rt d h' ∧ R d h') : ∃ d h', sSeq a b e h = .rt d h' ∧ R d h' := by
  obtain ⟨d, h', q, r⟩ := ha
  exact ⟨d, h', by rw [sSeq_, q]; rfl, r⟩
end Rf

set_option maxHeartbeats 1000000
/-! What perms reach, orbits; the order of rows (first written for k09). -/
namespace Rf
open PySem L2
/-! ### what the perms reach -/
inductive Rch (ps : List (List Nat)) (s : Nat) : Nat → Prop
  | refl : Rch ps s s
  | step {x : Nat} {p : List Nat} : Rch ps s x → p ∈ ps → Rch ps s (p.getD x 0)
abbrev Ps (n : Nat) (ps : List (List Nat)) : Prop := ∀ p ∈ ps, IsP n p
theorem Rch.lt {n : Nat} {ps : List (List Nat)} (P : Ps n ps) {s x : Nat} (hs : s < n) (r : Rch ps s x) : x < n := by
  induction r with
  | refl => exact hs
  | step _ hp ih => exact (P _ hp).lt _ ih
theorem Rch.trans {ps : List (List Nat)} {s x y : Nat} (r : Rch ps s x) (q : Rch ps x y) : Rch ps s y := by
  induction q with
  | refl => exact r
  | step _ hp ih => exact .step ih hp
theorem Rch.mono {ps qs : List (List Nat)} {s x : Nat} (r : Rch ps s x) (h : ∀ p ∈ ps, p ∈ qs) : Rch qs s x := by
  induction r with
  | refl => exact .refl
  | step _ hp ih => exact .step ih (h _ hp)
open Classical in
theorem Rch.back {n : Nat} {p : List Nat} (P : IsP n p) {x : Nat} (hx : x < n) : Rch [p] (p.getD x 0) x := by
  apply Classical.byContradiction
  intro no
  have Pp : Ps n [p] := fun q hq => by rw [List.mem_singleton] at hq; subst hq; exact P
  have key : ∀ y, Rch [p] x y → Rch [p] (p.getD x 0) (p.getD y 0) := fun y r => by
    induction r with
    | refl => exact .refl
    | step _ hp ih => rw [List.mem_singleton] at hp; subst hp; exact .step ih (by simp)
  let S := (List.range n).filter fun y => decide (Rch [p] x y)
  have mS : ∀ y, y ∈ S ↔ y < n ∧ Rch [p] x y := fun y => by simp [S]
  let I := S.map fun y => p.getD y 0
  have ndS : S.Nodup := List.Pairwise.filter _ List.nodup_range
  have ndI : I.Nodup := by
    show (S.map fun y => p.getD y 0).Pairwise (· ≠ ·)
    rw [List.pairwise_map]
    exact ndS.imp_of_mem fun {a b} ha hb hab e => hab (P.inj a b ((mS a).mp ha).1 ((mS b).mp hb).1 e)
  have hxS : x ∈ S := (mS x).mpr ⟨hx, .refl⟩
  have sub : ∀ z ∈ I, z ∈ S.erase x := fun z hz => by
    obtain ⟨y, hy, rfl⟩ := List.mem_map.mp hz
    obtain ⟨yn, ry⟩ := (mS y).mp hy
    have r1 := key y ry
    have ne : p.getD y 0 ≠ x := fun e => no (by rw [e] at r1; exact r1)
    exact (List.mem_erase_of_ne ne).mpr ((mS _).mpr ⟨P.lt _ yn, .step ry (by simp)⟩)
  have l := sub_length ndI sub
  rw [List.length_erase_of_mem hxS, List.length_map] at l
  have := List.length_pos_of_mem hxS
  omega
theorem Rch.symm {n : Nat} {ps : List (List Nat)} (P : Ps n ps) {s x : Nat} (hs : s < n) (r : Rch ps s x) : Rch ps x s := by
  induction r with
  | refl => exact .refl
  | step r1 hp ih =>
    exact (Rch.mono (Rch.back (P _ hp) (r1.lt P hs)) fun q hq => by rw [List.mem_singleton] at hq; subst hq; exact hp).trans ih
/-! the orbit, in order -/
open Classical in
noncomputable def orb (ps : List (List Nat)) (n s : Nat) : List Nat := (List.range n).filter fun y => decide (Rch ps s y)
theorem mem_orb {ps : List (List Nat)} {n s y : Nat} : y ∈ orb ps n s ↔ y < n ∧ Rch ps s y := by simp [orb]
theorem orb_eq {ps : List (List Nat)} {n s : Nat} (P : Ps n ps) (hs : s < n) {t : Nat} (r : Rch ps s t) : orb ps n t = orb ps n s := by
  unfold orb
  apply List.filter_congr
  intro y hy
  rw [decide_eq_decide]
  exact ⟨fun q => r.trans q, fun q => (r.symm P hs).trans q⟩
/-- the first point of its orbit -/
def Hd (ps : List (List Nat)) (x : Nat) : Prop := ∀ z, z < x → ¬ Rch ps z x
open Classical in
noncomputable def heads (ps : List (List Nat)) (n k : Nat) : List Nat := (List.range k).filter fun x => decide (Hd ps x)
noncomputable def orbs (ps : List (List Nat)) (n k : Nat) : List (List Nat) := (heads ps n k).map (orb ps n)
open Classical in
theorem orbs_succ {ps : List (List Nat)} {n k : Nat} : orbs ps n (k + 1) = if Hd ps k then orbs ps n k ++ [orb ps n k] else orbs ps n k := by
  unfold orbs heads
  rw [List.range_succ, List.filter_append, List.map_append]
  by_cases h : Hd ps k
  · rw [if_pos h, List.filter_cons, if_pos (decide_eq_true h)]; rfl
  · rw [if_neg h, List.filter_cons, if_neg (by simpa using h)]; simp
theorem orbs_le {ps : List (List Nat)} {n k : Nat} : (orbs ps n k).length ≤ k := by
  unfold orbs heads
  rw [List.length_map]
  exact Nat.le_trans (List.length_filter_le _ _) (by simp)
open Classical in
/-- one orbit alone -/
theorem orbs_one {ps : List (List Nat)} {n : Nat} (P : Ps n ps) (hn : 1 ≤ n) : ((orbs ps n n).length = 1) ↔ (orb ps n 0).length = n := by
  obtain ⟨m, rfl⟩ : ∃ m, n = m + 1 := ⟨n - 1, by omega⟩
  have h0 : heads ps (m + 1) (m + 1) = 0 :: ((List.range m).map Nat.succ).filter fun x => decide (Hd ps x) := by
    unfold heads
    rw [List.range_succ_eq_map, List.filter_cons, if_pos (decide_eq_true (show Hd ps 0 from fun z hz => absurd hz (by omega)))]
  have e1 : (orbs ps (m + 1) (m + 1)).length = 1 ↔ ∀ x, 0 < x → x < m + 1 → ∃ z, z < x ∧ Rch ps z x := by
    unfold orbs
    rw [List.length_map, h0, List.length_cons]
    constructor
    · intro h x hx hxn
      have e : (((List.range m).map Nat.succ).filter fun x => decide (Hd ps x)) = [] := List.eq_nil_of_length_eq_zero (by omega)
      rw [List.filter_eq_nil_iff] at e
      have := e x (List.mem_map.mpr ⟨x - 1, by rw [List.mem_range]; omega, by omega⟩)
      rw [decide_eq_true_eq] at this
      apply Classical.byContradiction
      exact fun no => this fun z hz r => no ⟨z, hz, r⟩
    · intro h
      have e : (((List.range m).map Nat.succ).filter fun x => decide (Hd ps x)) = [] := by
        rw [List.filter_eq_nil_iff]
        intro x mx
        rw [decide_eq_true_eq]
        obtain ⟨y, hy, rfl⟩ := List.mem_map.mp mx
        rw [List.mem_range] at hy
        obtain ⟨z, hz, r⟩ := h (y + 1) (by omega) (by omega)
        exact fun q => q z hz r
      rw [e]; rfl
  have e2 : (orb ps (m + 1) 0).length = m + 1 ↔ ∀ x, x < m + 1 → Rch ps 0 x := by
    unfold orb
    constructor
    · intro h x hx
      have e := List.length_filter_eq_length_iff.mp (show _ = (List.range (m + 1)).length by rw [List.length_range]; exact h)
      simpa using e x (by simpa using hx)
    · intro h
      rw [List.filter_eq_self.mpr (fun x hx => by simpa using h x (by simpa using hx)), List.length_range]
  rw [e1, e2]
  constructor
  · intro h x
    induction x using Nat.strongRecOn with
    | _ x ih =>
      intro hx
      by_cases h0 : x = 0
      · subst h0; exact .refl
      · obtain ⟨z, hz, r⟩ := h x (by omega) hx
        exact (ih z hz (by omega)).trans r
  · intro h x h0 hx
    exact ⟨0, h0, h x hx⟩
/-! a line that holds all that is reached -/
theorem line_orb {ps : List (List Nat)} {n s : Nat} {L : List Nat} (hs : s ∈ L) (hn : ∀ x ∈ L, x < n) (cl : ∀ x ∈ L, ∀ p ∈ ps, p.getD x 0 ∈ L) (rc : ∀ x ∈ L, Rch ps s x) (nd : L.Nodup) : L.Perm (orb ps n s) := by
  refine (List.perm_ext_iff_of_nodup nd (by unfold orb; exact List.Pairwise.filter _ List.nodup_range)).mpr fun x => ?_
  rw [mem_orb]
  refine ⟨fun hx => ⟨hn x hx, rc x hx⟩, fun q => ?_⟩
  have r := q.2
  clear q
  induction r with
  | refl => exact hs
  | step _ hp ih => exact cl _ ih _ hp
/-! ### words, their order -/
def lx : List Nat → List Nat → Prop
  | x :: xs, y :: ys => x < y ∨ (x = y ∧ lx xs ys)
  | _, _ => False
theorem lx_irr : ∀ a : List Nat, ¬ lx a a
  | [], h => h.elim
  | x :: xs, h => by
    rcases h with h | ⟨_, h⟩
    · omega
    · exact lx_irr xs h
theorem lx_trans : ∀ {a b c : List Nat}, lx a b → lx b c → lx a c
  | x :: xs, y :: ys, z :: zs, h1, h2 => by
    rcases h1 with h1 | ⟨rfl, h1⟩
    · rcases h2 with h2 | ⟨rfl, h2⟩
      · exact .inl (by omega)
      · exact .inl h1
    · rcases h2 with h2 | ⟨rfl, h2⟩
      · exact .inl h2
      · exact .inr ⟨rfl, lx_trans h1 h2⟩
  | [], _, _, h, _ => h.elim
  | _ :: _, [], _, h, _ => h.elim
  | _ :: _, _ :: _, [], _, h => h.elim
theorem lx_tot : ∀ {a b : List Nat}, a.length = b.length → a = b ∨ lx a b ∨ lx b a
  | [], [], _ => .inl rfl
  | x :: xs, y :: ys, h => by
    rcases Nat.lt_trichotomy x y with l | rfl | l
    · exact .inr (.inl (.inl l))
    · rcases lx_tot (a := xs) (b := ys) (by simpa using h) with rfl | l | l
      · exact .inl rfl
      · exact .inr (.inl (.inr ⟨rfl, l⟩))
      · exact .inr (.inr (.inr ⟨rfl, l⟩))
    · exact .inr (.inr (.inl l))
  | [], _ :: _, h => by cases h
  | _ :: _, [], h => by cases h
theorem lx_snoc : ∀ {a b : List Nat} {k j : Nat}, a.length = b.length → (lx (a ++ [k]) (b ++ [j]) ↔ lx a b ∨ (a = b ∧ k < j))
  | [], [], k, j, _ => by simp [lx]
  | x :: xs, y :: ys, k, j, h => by
    have ih := lx_snoc (a := xs) (b := ys) (k := k) (j := j) (by simpa using h)
    simp only [List.cons_append, lx, ih, List.cons.injEq]
    constructor
    · rintro (q | ⟨rfl, q | ⟨rfl, q⟩⟩)
      · exact .inl (.inl q)
      · exact .inl (.inr ⟨rfl, q⟩)
      · exact .inr ⟨⟨rfl, rfl⟩, q⟩
    · rintro ((q | ⟨rfl, q⟩) | ⟨⟨rfl, rfl⟩, q⟩)
      · exact .inl q
      · exact .inr ⟨rfl, .inl q⟩
      · exact .inr ⟨rfl, .inr ⟨rfl, q⟩⟩
  | [], _ :: _, _, _, h => by cases h
  | _ :: _, [], _, _, h => by cases h
theorem lx_least {Q : List Nat → Prop} : ∀ (l : Nat), (∃ c, c.length = l ∧ Q c) → ∃ c, (c.length = l ∧ Q c) ∧ ∀ c', c'.length = l → Q c' → c = c' ∨ lx c c'
  | 0, ⟨c, hc, q⟩ => ⟨c, ⟨hc, q⟩, fun c' h' _ => .inl (by rw [List.eq_nil_of_length_eq_zero hc, List.eq_nil_of_length_eq_zero h'])⟩
  | l + 1, ⟨c, hc, q⟩ => by
    have ex : ∃ k, ∃ t : List Nat, t.length = l ∧ Q (k :: t) := by
      cases c with
      | nil => cases hc
      | cons k t => exact ⟨k, t, by simpa using hc, q⟩
    obtain ⟨k, pk, mk⟩ := min_ex ex
    obtain ⟨t, ⟨lt, qt⟩, mt⟩ := lx_least (Q := fun t => Q (k :: t)) l pk
    refine ⟨k :: t, ⟨by simp [lt], qt⟩, fun c' h' q' => ?_⟩
    cases c' with
    | nil => cases h'
    | cons k' t' =>
      have l' : t'.length = l := by simpa using h'
      have := mk k' ⟨t', l', q'⟩
      by_cases e : k = k'
      · subst e
        rcases mt t' l' q' with rfl | z
        · exact .inl rfl
        · exact .inr (.inr ⟨rfl, z⟩)
      · exact .inr (.inl (by omega))
end Rf

set_option maxHeartbeats 1000000
/-! Cycles of a perm. -/
namespace Rf
open PySem L2
abbrev ap (f : List Nat) (x : Nat) : Nat := f.getD x 0
/-- a path from x along f -/
structure Pa (f : List Nat) (x : Nat) (c : List Nat) : Prop where
  pos : 0 < c.length
  hd : c.getD 0 0 = x
  nx : ∀ k, k + 1 < c.length → f.getD (c.getD k 0) 0 = c.getD (k + 1) 0
  nd : c.Nodup
/-- a whole cycle -/
structure Cy (f : List Nat) (x : Nat) (c : List Nat) : Prop extends Pa f x c where
  cl : f.getD (c.getD (c.length - 1) 0) 0 = x
section
variable {n x : Nat} {f c : List Nat}
theorem one_P {f : List Nat} (P : IsP n f) : Ps n [f] := fun q hq => by rw [List.mem_singleton] at hq; subst hq; exact P
theorem rch_one {y : Nat} (r : Rch [f] x y) : Rch [f] x (f.getD y 0) := .step r (by simp)
theorem Pa.one : Pa f x [x] := ⟨by simp, rfl, fun k hk => absurd hk (by simp), by simp⟩
theorem Pa.rch (A : Pa f x c) : ∀ k, k < c.length → Rch [f] x (c.getD k 0)
  | 0, _ => by rw [A.hd]; exact .refl
  | k + 1, h => by rw [← A.nx k h]; exact rch_one (A.rch k (by omega))
theorem Pa.lt (P : IsP n f) (hx : x < n) (A : Pa f x c) : ∀ y ∈ c, y < n := fun y hy => by
  obtain ⟨k, hk, rfl⟩ := mem_getD (d := 0) hy
  exact (A.rch k hk).lt (one_P P) hx
theorem Pa.len (P : IsP n f) (hx : x < n) (A : Pa f x c) : c.length ≤ n := by
  have := sub_length A.nd (l2 := List.range n) fun y hy => List.mem_range.mpr (A.lt P hx y hy)
  simpa using this
theorem Pa.push (P : IsP n f) (hx : x < n) (A : Pa f x c) (h : f.getD (c.getD (c.length - 1) 0) 0 ≠ x) : Pa f x (c ++ [f.getD (c.getD (c.length - 1) 0) 0]) := by
  have p := A.pos
  refine ⟨by simp, by rw [getD_app, if_neg (by omega)]; exact A.hd, fun k hk => ?_, ?_⟩
  · rw [List.length_append, List.length_singleton] at hk
    rw [getD_app, if_neg (by omega), getD_app]
    by_cases e : k + 1 = c.length
    · rw [if_pos e]; congr 2; omega
    · rw [if_neg e]; exact A.nx k (by omega)
  · refine List.nodup_append.mpr ⟨A.nd, by simp, fun a ha b hb => ?_⟩
    rw [List.mem_singleton] at hb
    subst hb
    rintro rfl
    obtain ⟨k, hk, e⟩ := mem_getD (d := 0) ha
    have ll := A.lt P hx _ (getD_mem (d := 0) (show c.length - 1 < c.length by omega))
    cases k with
    | zero => rw [A.hd] at e; exact h e.symm
    | succ k =>
      rw [← A.nx k hk] at e
      have lk := A.lt P hx _ (getD_mem (d := 0) (show k < c.length by omega))
      have := nodup_getD A.nd (by omega) (by omega) (P.inj _ _ lk ll e)
      omega
theorem Cy.ex (P : IsP n f) (hx : x < n) : ∃ c, Cy f x c := by
  have key : ∀ m c, Pa f x c → n - c.length = m → ∃ c, Cy f x c := by
    intro m
    induction m with
    | zero =>
      intro c A e
      have l := A.len P hx
      by_cases q : f.getD (c.getD (c.length - 1) 0) 0 = x
      · exact ⟨c, A, q⟩
      · have := (A.push P hx q).len P hx
        simp at this; omega
    | succ m ih =>
      intro c A e
      by_cases q : f.getD (c.getD (c.length - 1) 0) 0 = x
      · exact ⟨c, A, q⟩
      · exact ih _ (A.push P hx q) (by simp; omega)
  exact key _ _ Pa.one rfl
theorem Cy.nxt (C : Cy f x c) {k : Nat} (hk : k < c.length) : f.getD (c.getD k 0) 0 = c.getD (if k + 1 < c.length then k + 1 else 0) 0 := by
  by_cases q : k + 1 < c.length
  · rw [if_pos q]; exact C.nx k q
  · rw [if_neg q, C.hd, ← C.cl]; congr 2; omega
theorem Cy.mem (C : Cy f x c) {y : Nat} : y ∈ c ↔ Rch [f] x y := by
  constructor
  · intro hy
    obtain ⟨k, hk, rfl⟩ := mem_getD (d := 0) hy
    exact C.toPa.rch k hk
  · intro r
    induction r with
    | refl => rw [← C.hd]; exact getD_mem C.pos
    | step _ hp ih =>
      rw [List.mem_singleton] at hp
      subst hp
      obtain ⟨k, hk, e⟩ := mem_getD (d := 0) ih
      rw [← e, C.nxt hk]
      refine getD_mem ?_
      split
      · assumption
      · exact C.pos
theorem Cy.perm (P : IsP n f) (hx : x < n) (C : Cy f x c) : c.Perm (orb [f] n x) := by
  refine (List.perm_ext_iff_of_nodup C.nd (by unfold orb; exact List.Pairwise.filter _ List.nodup_range)).mpr fun y => ?_
  rw [mem_orb, C.mem]
  exact ⟨fun r => ⟨r.lt (one_P P) hx, r⟩, fun q => q.2⟩
noncomputable def len (f : List Nat) (n x : Nat) : Nat := (orb [f] n x).length
theorem Cy.len (P : IsP n f) (hx : x < n) (C : Cy f x c) : c.length = Rf.len f n x := (C.perm P hx).length_eq
theorem len_pos (P : IsP n f) (hx : x < n) : 1 ≤ len f n x := by
  obtain ⟨c, C⟩ := Cy.ex P hx
  rw [← C.len P hx]; exact C.pos
theorem len_le : len f n x ≤ n := by unfold len orb; exact Nat.le_trans (List.length_filter_le _ _) (by simp)
theorem len_eq (P : IsP n f) (hx : x < n) {y : Nat} (r : Rch [f] x y) : len f n y = len f n x := by unfold len; rw [orb_eq (one_P P) hx r]
theorem Cy.uniq (P : IsP n f) (hx : x < n) {d : List Nat} (C : Cy f x c) (E : Cy f x d) : c = d := by
  have l : c.length = d.length := by rw [C.len P hx, E.len P hx]
  refine ext_getD l fun k => ?_
  induction k with
  | zero => intro _; rw [C.hd, E.hd]
  | succ k ih => intro hk; rw [← C.nx k hk, ← E.nx k (by omega), ih (by omega)]
open Classical in
noncomputable def cyc (f : List Nat) (x : Nat) : List Nat := if h : ∃ c, Cy f x c then Classical.choose h else []
theorem cyc_cy (P : IsP n f) (hx : x < n) : Cy f x (cyc f x) := by
  unfold cyc
  rw [dif_pos (Cy.ex P hx)]
  exact Classical.choose_spec (Cy.ex P hx)
theorem cyc_eq (P : IsP n f) (hx : x < n) (C : Cy f x c) : cyc f x = c := (cyc_cy P hx).uniq P hx C
/-! how many points, how many cycles of a length -/
noncomputable def cntL (f : List Nat) (n s : Nat) : Nat := ((List.range n).filter fun x => len f n x == s).length
noncomputable def lens (f : List Nat) (n : Nat) : List Nat := (heads [f] n n).map (len f n)
theorem mem_heads {ps : List (List Nat)} {k : Nat} : x ∈ heads ps n k ↔ x < k ∧ Hd ps x := by
  unfold heads
  rw [List.mem_filter, List.mem_range]
  exact and_congr_right fun _ => @decide_eq_true_iff _ (Classical.propDecidable _)
theorem heads_nodup {ps : List (List Nat)} {k : Nat} : (heads ps n k).Nodup := by unfold heads; exact List.Pairwise.filter _ List.nodup_range
/-- each point lies in the orbit of one head -/
theorem head_ex {ps : List (List Nat)} (P : Ps n ps) (hx : x < n) : ∃ z, z ≤ x ∧ Hd ps z ∧ Rch ps z x := by
  obtain ⟨z, ⟨hz, r⟩, m⟩ := min_ex (P := fun z => z < n ∧ Rch ps z x) ⟨x, hx, .refl⟩
  refine ⟨z, m x ⟨hx, .refl⟩, fun y hy r2 => ?_, r⟩
  have := m y ⟨by omega, r2.trans r⟩
  omega
theorem flat_perm {ps : List (List Nat)} (P : Ps n ps) : ((heads ps n n).flatMap (orb ps n)).Perm (List.range n) := by
  refine (List.perm_ext_iff_of_nodup ?_ List.nodup_range).mpr fun y => ?_
  · show List.Pairwise _ _
    rw [List.pairwise_flatMap]
    refine ⟨fun a _ => by unfold orb; exact List.Pairwise.filter _ List.nodup_range, ?_⟩
    refine (heads_nodup (ps := ps) (n := n) (k := n)).imp_of_mem fun {a b} ha hb ne u hu v hv e => ?_
    subst e
    obtain ⟨an, ha⟩ := mem_heads.mp ha
    obtain ⟨bn, hb⟩ := mem_heads.mp hb
    have r1 := (mem_orb.mp hu).2
    have r2 := (mem_orb.mp hv).2
    have r3 := r1.trans (r2.symm P bn)
    have r4 := r2.trans (r1.symm P an)
    rcases Nat.lt_trichotomy a b with q | q | q
    · exact hb a q r3
    · exact ne q
    · exact ha b q r4
  · rw [List.mem_flatMap, List.mem_range]
    constructor
    · rintro ⟨a, _, h⟩; exact (mem_orb.mp h).1
    · intro hy
      obtain ⟨z, hz, h, r⟩ := head_ex P hy
      exact ⟨z, mem_heads.mpr ⟨by omega, h⟩, mem_orb.mpr ⟨hy, r⟩⟩
theorem filter_flat (P : IsP n f) (s : Nat) : ∀ hs : List Nat, (∀ x ∈ hs, x < n) → ((hs.flatMap (orb [f] n)).filter fun x => len f n x == s).length = s * ((hs.map (len f n)).filter (· == s)).length
  | [], _ => by simp
  | x :: hs, h => by
    have hx := h x List.mem_cons_self
    rw [List.flatMap_cons, List.filter_append, List.length_append, filter_flat P s hs fun y hy => h y (List.mem_cons_of_mem _ hy), List.map_cons, List.filter_cons]
    have all : ∀ y ∈ orb [f] n x, len f n y = len f n x := fun y hy => len_eq P hx (mem_orb.mp hy).2
    by_cases e : len f n x = s
    · rw [List.filter_eq_self.mpr fun y hy => by rw [all y hy, e]; simp, if_pos (by simp [e]), List.length_cons, Nat.mul_add, Nat.mul_one]
      have : (orb [f] n x).length = s := e
      omega
    · rw [List.filter_eq_nil_iff.mpr fun y hy => by rw [all y hy]; simpa using e, if_neg (by simpa using e)]
      simp
theorem cnt_hd (P : IsP n f) (s : Nat) : cntL f n s = s * ((lens f n).filter (· == s)).length := by
  unfold cntL lens
  rw [← filter_flat P s _ fun x hx => (mem_heads.mp hx).1]
  exact ((flat_perm (one_P P)).filter _).length_eq.symm
theorem lens_pos (P : IsP n f) : ∀ s ∈ lens f n, 1 ≤ s := fun s hs => by
  obtain ⟨x, hx, rfl⟩ := List.mem_map.mp hs
  exact len_pos P (mem_heads.mp hx).1
theorem lens_iff {g : List Nat} (P : IsP n f) (Q : IsP n g) : (lens f n).Perm (lens g n) ↔ ∀ s, cntL f n s = cntL g n s := by
  constructor
  · intro p s
    rw [cnt_hd P, cnt_hd Q, (p.filter _).length_eq]
  · intro h
    rw [List.perm_iff_count]
    intro s
    rw [show List.count s (lens f n) = ((lens f n).filter (· == s)).length from List.countP_eq_length_filter, show List.count s (lens g n) = ((lens g n).filter (· == s)).length from List.countP_eq_length_filter]
    by_cases s0 : s = 0
    · have z : ∀ l : List Nat, (∀ s ∈ l, 1 ≤ s) → l.filter (· == s) = [] := fun l hl => List.filter_eq_nil_iff.mpr fun x hx => by
        have := hl x hx
        simp; omega
      rw [z _ (lens_pos P), z _ (lens_pos Q)]
    · have := h s
      rw [cnt_hd P, cnt_hd Q] at this
      exact Nat.eq_of_mul_eq_mul_left (by omega) this
end
end Rf

set_option maxHeartbeats 1000000
/-! More to reckon with: the last item, rows compared, index, pop(i), extend. -/
namespace Rf
open PySem L2
theorem ixD_last {ds : List D} (hp : 0 < ds.length) (h : AH) : ixD ds (-1) h = .ok (ds.getD (ds.length - 1) .non) h := by
  have e : L2.atI ds (-1) = some (ds.getD (ds.length - 1) .non) := by
    unfold L2.atI L2.ixN
    rw [if_neg (by omega), if_pos (by omega)]
    have : ((-1 : Int) + (ds.length : Int)).toNat = ds.length - 1 := by omega
    rw [Option.bind_some, this]
    exact getD_some (by omega)
  simp [ixD, e]
theorem ixD_last_N {xs : List Nat} (hp : 0 < xs.length) (h : AH) : ixD (xs.map dN) (-1) h = .ok (dN (xs.getD (xs.length - 1) 0)) h := by
  rw [ixD_last (by simpa using hp), List.length_map, map_getD (d := 0) (by omega)]
theorem mapM_toP' {us : List Nat} {h : AH} {k : Nat} : (us.map dN).mapM (D.toP h (k + 1)) = some (us.map fun u : Nat => PyData.int (u : Int)) := mapM_toP
theorem toP_tupN {us : List Nat} {h : AH} : (D.tup (us.map dN)).toP h 20 = some (.tuple (us.map fun u : Nat => PyData.int (u : Int))) := by
  unfold D.toP
  show ((us.map dN).mapM (D.toP h 19)).map PyData.tuple = _
  rw [mapM_toP]; rfl
theorem oEq_tupN {us vs : List Nat} {h : AH} : oEq (.tup (us.map dN)) (.tup (vs.map dN)) h = .ok (.bl (decide (us = vs))) h := by
  unfold oEq
  rw [toP_tupN, toP_tupN]
  simp only [PyData.eqv, eqvAll_N]
theorem oNe_tupN {us vs : List Nat} {h : AH} : oNe (.tup (us.map dN)) (.tup (vs.map dN)) h = .ok (.bl (!decide (us = vs))) h := by
  unfold oNe
  rw [toP_tupN, toP_tupN]
  simp only [PyData.eqv, eqvAll_N]
theorem oNe_L {us vs : List Nat} {h : AH} {r q : Nat} (hr : h[r]? = some (.lst (us.map dN))) (hq : h[q]? = some (.lst (vs.map dN))) : oNe (.ref r) (.ref q) h = .ok (.bl (!decide (us = vs))) h := by
  unfold oNe
  rw [toP_list hr, toP_list hq]
  simp only [PyData.eqv, eqvAll_N]
theorem firstAt_N {v : Nat} : ∀ {us : List Nat} {j : Nat}, j < us.length → us.getD j 0 = v → (∀ k, k < j → us.getD k 0 ≠ v) → firstAt (.int (v : Int)) (us.map fun u : Nat => PyData.int (u : Int)) = some j
  | [], j, h, _, _ => absurd h (by simp)
  | u :: us, 0, _, e, _ => by
    have e : u = v := e
    subst e
    rw [List.map_cons, firstAt, eqv_int]; simp
  | u :: us, j + 1, h, e, n => by
    have n0 : u ≠ v := n 0 (by omega)
    have ih := firstAt_N (v := v) (us := us) (j := j) (by simpa using h) e fun k hk => n (k + 1) (by omega)
    rw [List.map_cons, firstAt, eqv_int, ih]
    have : ((u : Int) == (v : Int)) = false := by rw [beq_nat]; simpa using n0
    rw [this]; rfl
theorem mIndex_N {us : List Nat} {h : AH} {r j v : Nat} (hr : h[r]? = some (.lst (us.map dN))) (hj : j < us.length) (e : us.getD j 0 = v) (n : ∀ k, k < j → us.getD k 0 ≠ v) : mIndex (.ref r) [.int (v : Int)] h = .ok (dN j) h := by
  unfold mIndex
  dsimp only
  rw [toP_list hr, show (D.int (v : Int)).toP h 20 = some (.int v) from rfl]
  dsimp only
  rw [firstAt_N hj e n]
theorem eraseIdx_map' {α β : Type} {f : α → β} : ∀ {l : List α} {i : Nat}, (l.map f).eraseIdx i = (l.eraseIdx i).map f
  | [], _ => rfl
  | a :: l, 0 => rfl
  | a :: l, i + 1 => by rw [List.map_cons, List.eraseIdx_cons_succ, List.eraseIdx_cons_succ, eraseIdx_map', List.map_cons]
theorem mPopAt_N {us : List Nat} {h : AH} {r j : Nat} (hr : h[r]? = some (.lst (us.map dN))) (hj : j < us.length) (hl : us.length ≤ 1000000) : mPopAt (.ref r) [.int (j : Int)] h = .ok (dN (us.getD j 0)) (h.set r (.lst ((us.eraseIdx j).map dN))) := by
  unfold mPopAt
  dsimp only
  rw [hr]
  dsimp only
  rw [ixN_nat (by simpa using hj)]
  dsimp only
  rw [List.getElem?_map, getD_some (a := 0) hj]
  dsimp only [Option.map]
  rw [if_pos (show Fits (us.map dN).length from fits (by simp; omega)), eraseIdx_map']
theorem mExtend_L {xs ys : List D} {h : AH} {r q : Nat} (hr : h[r]? = some (.lst xs)) (hq : h[q]? = some (.lst ys)) (hl : xs.length + ys.length ≤ 1000000) : mExtend (.ref r) [.ref q] h = .ok .non (h.set r (.lst (xs ++ ys))) := by
  unfold mExtend
  dsimp only
  rw [hr, hq]
  dsimp only
  rw [if_pos (fits (by omega))]
def dC (c : List Nat) : D := .tup (c.map dN)
/-! ### the points known -/
def kn (n : Nat) (L : List Nat) : List D := (List.range n).map fun x => D.bl (decide (x ∈ L))
theorem kn_nil (n : Nat) : List.replicate n (D.bl false) = kn n [] := by
  unfold kn
  simp [List.map_const']
theorem kn_len {n : Nat} {L : List Nat} : (kn n L).length = n := by simp [kn]
theorem kn_at {n x : Nat} {L : List Nat} (hx : x < n) (h : AH) : ixD (kn n L) (x : Int) h = .ok (.bl (decide (x ∈ L))) h := by
  unfold kn
  exact ixD_map (f := fun x => D.bl (decide (x ∈ L))) (List.getElem?_range hx)
theorem kn_set {n x : Nat} {L : List Nat} (hx : x < n) : (kn n L).set x (.bl true) = kn n (L ++ [x]) := by
  apply List.ext_getElem?
  intro j
  by_cases hj : j < n
  · unfold kn
    by_cases e : x = j
    · subst e
      rw [List.getElem?_set_self (by simpa using hx), List.getElem?_map, List.getElem?_range hx]
      simp
    · rw [List.getElem?_set_ne e, List.getElem?_map, List.getElem?_map, List.getElem?_range hj]
      have : ¬ j = x := fun h => e h.symm
      simp [this]
  · rw [List.getElem?_eq_none (by rw [List.length_set, kn_len]; omega), List.getElem?_eq_none (by rw [kn_len]; omega)]
theorem kn_put {n x : Nat} {L : List Nat} {r : Nat} {h : AH} (hx : x < n) : putO (some (.lst (kn n L))) r (x : Int) (.bl true) h = some (h.set r (.lst (kn n (L ++ [x])))) := by
  rw [putO_nat (by rw [kn_len]; exact hx), kn_set hx]
open Classical in
/-- the points known behind the first k -/
noncomputable def knO (ps : List (List Nat)) (n k : Nat) : List Nat := (List.range n).filter fun y => decide (∃ z, z < k ∧ Rch ps z y)
theorem kn_ext {n : Nat} {L M : List Nat} (h : ∀ x, x < n → (x ∈ L ↔ x ∈ M)) : kn n L = kn n M := by
  unfold kn
  apply List.map_congr_left
  intro x hx
  rw [List.mem_range] at hx
  simp [h x hx]
theorem mem_knO {ps : List (List Nat)} {n k x : Nat} : x ∈ knO ps n k ↔ x < n ∧ ∃ z, z < k ∧ Rch ps z x := by simp [knO]
theorem notIn2_tup {us : List Nat} {h : AH} {k : Nat} : oNotIn2 (.int (k : Int)) (.tup (us.map dN)) h = .ok (.bl (!us.contains k)) h := by
  unfold oNotIn2
  rw [toP_tupN, show (D.int (k : Int)).toP h 20 = some (.int k) from rfl]
  simp only [any_N]
theorem in2_tup {us : List Nat} {h : AH} {k : Nat} : oIn2 (.int (k : Int)) (.tup (us.map dN)) h = .ok (.bl (us.contains k)) h := by
  unfold oIn2
  rw [toP_tupN, show (D.int (k : Int)).toP h 20 = some (.int k) from rfl]
  simp only [any_N]
theorem notIn2_L {us : List Nat} {h : AH} {r k : Nat} (hr : h[r]? = some (.lst (us.map dN))) : oNotIn2 (.int (k : Int)) (.ref r) h = .ok (.bl (!us.contains k)) h := by
  unfold oNotIn2
  rw [toP_list hr, show (D.int (k : Int)).toP h 20 = some (.int k) from rfl]
  simp only [any_N]
end Rf

set_option maxHeartbeats 1000000
/-! reckoning for RY: enumerate, stars, max -/
namespace Rf
open PySem L2
theorem forN_liveE {g : GM} {b : SM} {r : Nat} {ds : List D} {m : Nat} (P : Nat → AE → AH → Prop) (hP : ∀ i e h, P i e h → h[r]? = some (.lst ds)) : ∀ (k i : Nat) (e : AE) (h : AH), i + k = ds.length → P i e h →
    (∀ (i : Nat) (d : D) (e : AE) (h : AH), ds[i]? = some d → P i e h → ∃ e' h', (onlyNx (g (.tup [.int (i : Nat), d]) e h)).then b = .nx e' h' ∧ P (i + 1) e' h') → ∃ e' h', forN (liveE r m) g b (k + 1) i e h = .nx e' h' ∧ P ds.length e' h'
  | 0, i, e, h, hk, p, st => by
    have e0 := hP i e h p
    have ei : i = ds.length := by omega
    refine ⟨e, h, ?_, by rw [← ei]; exact p⟩
    unfold forN
    simp [liveE, e0, ei, numD_at]
  | k + 1, i, e, h, hk, p, st => by
    have e0 := hP i e h p
    have hi : i < ds.length := by omega
    obtain ⟨e1, h1, q, p1⟩ := st i ds[i] e h (List.getElem?_eq_getElem hi) p
    obtain ⟨e2, h2, q2, p2⟩ := forN_liveE P hP k (i + 1) e1 h1 (by omega) p1 st
    refine ⟨e2, h2, ?_, p2⟩
    have nx : (liveE r m).nxt i h = some (some (.tup [.int (i : Nat), ds[i]])) := by simp [liveE, e0, numD_at, hi]
    unfold forN
    rw [nx]
    dsimp only
    rw [q]
    exact q2
theorem sFor_enumL {m : EM} {g : GM} {b : SM} {e : AE} {h h1 : AH} {r : Nat} {ds : List D} (P : Nat → AE → AH → Prop) (hm : m e h = .ok (.ref r) h1) (hP : ∀ i e h, P i e h → h[r]? = some (.lst ds)) (p : P 0 e h1)
    (st : ∀ (i : Nat) (d : D) (e : AE) (h : AH), ds[i]? = some d → P i e h → ∃ e' h', (onlyNx (g (.tup [.int (i : Nat), d]) e h)).then b = .nx e' h' ∧ P (i + 1) e' h') : ∃ e' h', sFor (iEnum2 m) g b e h = .nx e' h' ∧ P ds.length e' h' := by
  have hr := hP _ _ _ p
  have : iEnum2 m e h = .ok (liveE r ds.length) h1 := by simp [iEnum2, hm, hr]
  unfold sFor
  rw [this]
  exact forN_liveE P hP ds.length 0 e h1 (Nat.zero_add _) p st
theorem iEnum2_tup {m : EM} {e : AE} {h h1 : AH} {ds : List D} (hm : m e h = .ok (.tup ds) h1) : iEnum2 m e h = .ok (stat (numD ds)) h1 := by simp [iEnum2, hm]
theorem sFor_enumT {m : EM} {g : GM} {b : SM} {e : AE} {h h1 : AH} {ds : List D} (P : Nat → AE → AH → Prop) (hm : m e h = .ok (.tup ds) h1) (p : P 0 e h1)
    (st : ∀ (i : Nat) (d : D) (e : AE) (h : AH), ds[i]? = some d → P i e h → ∃ e' h', (onlyNx (g (.tup [.int (i : Nat), d]) e h)).then b = .nx e' h' ∧ P (i + 1) e' h') : ∃ e' h', sFor (iEnum2 m) g b e h = .nx e' h' ∧ P ds.length e' h' := by
  rw [sFor_stat (iEnum2_tup hm)]
  have := loop_inv (g := g) (b := b) P (numD ds) 0 e h1 p fun i d e h hd hp => by
    rw [numD_at] at hd
    obtain ⟨d0, h0, rfl⟩ := Option.map_eq_some_iff.mp hd
    rw [Nat.zero_add] at hp
    obtain ⟨e', h', q, p'⟩ := st i d0 e h h0 hp
    exact ⟨e', h', q, by rwa [Nat.zero_add]⟩
  have ln : (numD ds).length = ds.length := by simp [numD]
  simpa [ln] using this
theorem sFor_enumT_ret {m : EM} {g : GM} {b : SM} {e : AE} {h h1 : AH} {ds : List D} (P : Nat → AE → AH → Prop) (R : D → AH → Prop) (hm : m e h = .ok (.tup ds) h1) (p : P 0 e h1)
    (st : ∀ (i : Nat) (d : D) (e : AE) (h : AH), ds[i]? = some d → P i e h → (∃ e' h', (onlyNx (g (.tup [.int (i : Nat), d]) e h)).then b = .nx e' h' ∧ P (i + 1) e' h') ∨ ∃ d' h', (onlyNx (g (.tup [.int (i : Nat), d]) e h)).then b = .rt d' h' ∧ R d' h') :
    (∃ e' h', sFor (iEnum2 m) g b e h = .nx e' h' ∧ P ds.length e' h') ∨ ∃ d' h', sFor (iEnum2 m) g b e h = .rt d' h' ∧ R d' h' := by
  rw [sFor_stat (iEnum2_tup hm)]
  have := loop_ret (g := g) (b := b) P R (numD ds) 0 e h1 p fun i d e h hd hp => by
    rw [numD_at] at hd
    obtain ⟨d0, h0, rfl⟩ := Option.map_eq_some_iff.mp hd
    rw [Nat.zero_add] at hp
    rcases st i d0 e h h0 hp with ⟨e', h', q, p'⟩ | z
    · exact .inl ⟨e', h', q, by rwa [Nat.zero_add]⟩
    · exact .inr z
  have ln : (numD ds).length = ds.length := by simp [numD]
  simpa [ln] using this
def LR.app (xs : List D) : LR → LR
  | .ok ds h => .ok (xs ++ ds) h
  | .exc c fs h => .exc c fs h
  | .stuck => .stuck
@[simp] theorem app_ok (xs ds : List D) (h : AH) : LR.app xs (.ok ds h) = .ok (xs ++ ds) h := rfl
theorem lStar_ref {a : EM} {r : LM} {env : AE} {h h1 : AH} {i : Nat} {xs : List D} (e : a env h = .ok (.ref i) h1) (hr : h1[i]? = some (.lst xs)) : lStar a r env h = (r env h1).app xs := by
  unfold lStar
  rw [e]
  simp only [seqOf, hr]
  cases r env h1 <;> rfl
theorem cMaxL_ref {r : Nat} {ns : List Int} {h : AH} (e : h[r]? = some (.lst (ns.map D.int))) (l : 0 < ns.length) : cMaxL [.ref r] h = .ok (.int (maxI ns)) h := by
  simp only [cMaxL, listOf, e, intsOf_map]
  rw [if_pos l]
/-- a comprehension over a row that stands still, any target, no test -/
theorem lc_gen {g : GM} {te : EM} {e0 : AE} {h : AH} {ds : List D} (f : Nat → D) : ∀ (m i : Nat) (acc : List D), i + m = ds.length → acc.length + m ≤ sizeLine →
    (∀ i d, ds[i]? = some d → ∃ e1, g d e0 h = .nx e1 h ∧ te e1 h = .ok (f i) h) → lcN (stat ds) g (eC (.bl true)) te e0 (m + 1) i acc h = .inr (acc ++ (List.range m).map fun t => f (i + t), h)
  | 0, i, acc, hi, _, _ => by
    have hi : ds[i]? = none := List.getElem?_eq_none (by omega)
    unfold lcN
    simp [stat, hi]
  | m + 1, i, acc, hi, hl, st => by
    have hd : ds[i]? = some ds[i] := List.getElem?_eq_getElem (by omega)
    obtain ⟨e1, q1, q2⟩ := st i _ hd
    have ih := lc_gen (g := g) (te := te) (e0 := e0) (h := h) (ds := ds) f m (i + 1) (acc ++ [f i]) (by omega) (by simp; omega) st
    have nx : (stat ds).nxt i h = some (some ds[i]) := by simp [stat, hd]
    unfold lcN
    rw [nx]
    simp only [q1, eC_, q2]
    rw [if_pos (show FitsL acc.length from (by omega : acc.length < sizeLine)), ih]
    have : (List.range (m + 1)).map (fun t => f (i + t)) = f i :: (List.range m).map (fun t => f (i + 1 + t)) := by
      rw [List.range_succ_eq_map]
      simp only [List.map_cons, List.map_map, Nat.add_zero]
      congr 1
      refine List.map_congr_left fun t _ => ?_
      show f (i + (t + 1)) = _
      congr 1; omega
    rw [this, List.append_assoc]; rfl
theorem eLc_gen {mi : IM} {g : GM} {te : EM} {vs : List Nat} {e : AE} {h h1 : AH} {ds : List D} (f : Nat → D) (hm : mi e h = .ok (stat ds) h1) (hl : ds.length ≤ sizeLine)
    (st : ∀ i d, ds[i]? = some d → ∃ e1, g d (wipeE e vs) h1 = .nx e1 h1 ∧ te e1 h1 = .ok (f i) h1) : eLc mi g (eC (.bl true)) te vs e h = .ok (.ref h1.length) (h1 ++ [.lst ((List.range ds.length).map f)]) := by
  unfold eLc
  rw [hm]
  have := lc_gen (g := g) (te := te) (e0 := wipeE e vs) (h := h1) (ds := ds) f ds.length 0 [] (Nat.zero_add _) (by simpa using hl) st
  have hn : (stat ds).n = ds.length := rfl
  simp only [hn, this]
  simp
theorem numD_len {ds : List D} : (numD ds).length = ds.length := by simp [numD]
end Rf

set_option maxHeartbeats 1000000
/-! reckoning: texts as code lists, raise, fields -/
namespace Rf
open PySem L2 SX
def cutL {α : Type} (ds : List α) (lo hi : Option Int) : List α := (ds.drop (HT.sIx ds.length 0 lo)).take (HT.sIx ds.length ds.length hi - HT.sIx ds.length 0 lo)
theorem cutL_to {α : Type} (es : List α) (k : Nat) : cutL es none (some (k : Int)) = es.take k := by
  unfold cutL
  rw [HT.sIx_none, HT.sIx_nat, List.drop_zero, Nat.sub_zero]
  rw [List.take_eq_take_iff]; omega
theorem cutL_from {α : Type} (es : List α) (k : Nat) : cutL es (some (k : Int)) none = es.drop k := by
  unfold cutL
  rw [HT.sIx_none, HT.sIx_nat]
  by_cases hk : k ≤ es.length
  · rw [Nat.min_eq_left hk, List.take_of_length_le (by simp)]
  · rw [Nat.min_eq_right (by omega), List.drop_of_length_le (Nat.le_refl _), List.drop_of_length_le (by omega)]; simp
theorem cutL_but {α : Type} (es : List α) : cutL es none (some (-1)) = es.dropLast := by
  unfold cutL
  have : HT.sIx es.length es.length (some (-1)) = es.length - 1 := by
    have e : HT.sIx es.length es.length (some (-1)) = ((-1 : Int) + (es.length : Int)).toNat := rfl
    rw [e]; omega
  rw [HT.sIx_none, this, List.drop_zero, Nat.sub_zero, List.dropLast_eq_take]
theorem cutD_L (ds : List D) (lo hi : Option Int) : cutD ds lo hi = cutL ds lo hi := rfl
theorem cutL_map {α β : Type} (f : α → β) (ds : List α) (lo hi : Option Int) : cutL (ds.map f) lo hi = (cutL ds lo hi).map f := by
  unfold cutL
  rw [List.length_map, List.map_take, List.map_drop]
theorem cutS_S (a : List Nat) (lo hi : Option Int) : cutS (S a) lo hi = S (cutL a lo hi) := by
  unfold cutS cutL
  rw [S_len]
theorem signs_S (a : List Nat) : signs (S a) = a.map fun c => .str (S [c]) := rfl
@[simp] theorem oAdd_S (a b : List Nat) (h : AH) : oAdd (.str (S a)) (.str (S b)) h = if Fits (a.length + b.length) then .ok (.str (S (a ++ b))) h else .stuck := by
  show (if Fits ((S a).length + (S b).length) then ER.ok (.str (S a ++ S b)) h else .stuck) = _
  rw [S_len, S_len, S_cat]
@[simp] theorem oSl_S (a : List Nat) (lo hi : Option Int) (h : AH) : oSl (.str (S a)) lo hi h = if Fits a.length then .ok (.str (S (cutL a lo hi))) h else .stuck := by
  show (if Fits (S a).length then ER.ok (.str (cutS (S a) lo hi)) h else .stuck) = _
  rw [S_len, cutS_S]
@[simp] theorem cLen_S (a : List Nat) (h : AH) : cLen [.str (S a)] h = if Fits a.length then .ok (.int a.length) h else .stuck := by
  show (if Fits (S a).length then ER.ok (.int (S a).length) h else .stuck) = _
  rw [S_len]
theorem oIx_S {a : List Nat} {i : Nat} {h : AH} (hi : i < a.length) (hl : a.length ≤ 1000000) : oIx (.str (S a)) (.int (i : Int)) h = .ok (.str (S [a.getD i 0])) h := by
  unfold oIx
  dsimp only
  rw [S_len, if_pos (fits (by omega)), atI_nat (getD_some (a := 0) hi)]
/-- codes that a text may have -/
def okS (a : List Nat) : Prop := ∀ c ∈ a, c < 0x110000
theorem okS_ok {a : List Nat} (h : okS a) : PyData.strOk (S a) = true := by
  unfold PyData.strOk
  rw [Array.all_eq_true_iff_forall_mem]
  intro c hc
  exact decide_eq_true (h c (by simpa using hc))
theorem toP_S {a : List Nat} (h : okS a) (hh : AH) (k : Nat) : (D.str (S a)).toP hh k = some (.str (S a)) := by
  cases k <;> exact if_pos (okS_ok h)
theorem eqv_S (a b : List Nat) : PyData.eqv (.str (S a)) (.str (S b)) = decide (a = b) := by
  simp only [PyData.eqv]
  exact S_beq_eq
theorem oEq_SS {a b : List Nat} (ha : okS a) (hb : okS b) (h : AH) : oEq (.str (S a)) (.str (S b)) h = .ok (.bl (decide (a = b))) h := by
  unfold oEq
  rw [toP_S ha, toP_S hb]
  simp only [eqv_S]
@[simp] theorem eJoin_ (a : List Nat) (me : EM) (env : AE) (h : AH) : eJoin (eC (.str (S a))) me env h = (me env h).then fun x h2 => oJoin (S a) x h2 := rfl
theorem S_of (s : String) : Str.ofString s = S (Str.ofString s).cps.toList := (S_tl _).symm
theorem joinL_nil : ∀ ys : List (List Nat), TL.joinL [] ys = ys.flatten
  | [] => rfl
  | [p] => by simp [TL.joinL]
  | p :: q :: r => by
    show p ++ ([] ++ TL.joinL [] (q :: r)) = _
    rw [joinL_nil (q :: r)]; simp
theorem oJoin_ref {a : List Nat} {ys : List (List Nat)} {r : Nat} {h : AH} (hr : h[r]? = some (.lst (ys.map fun y => .str (S y)))) (hl : (ys.map (·.length)).sum + ys.length * a.length ≤ 16777216) : oJoin (S a) (.ref r) h = .ok (.str (S (TL.joinL a ys))) h := by
  unfold oJoin
  have e1 : seqOf h (.ref r) = some (ys.map fun y => .str (S y)) := by simp [seqOf, hr]
  have e2 : strsOf (ys.map fun y => D.str (S y)) = some (ys.map S) := by
    have := strsOf_map (ys.map S)
    rwa [List.map_map] at this
  rw [e1]
  dsimp only
  rw [e2]
  dsimp only
  rw [if_pos, join_S]
  unfold JoinOk
  rw [SX.lens, List.length_map, S_len]
  exact hl
theorem join_codes {cs : List Nat} {r : Nat} {h : AH} (hr : h[r]? = some (.lst (cs.map fun c => .str (S [c])))) (hl : cs.length ≤ 1000000) : oJoin (S []) (.ref r) h = .ok (.str (S cs)) h := by
  have e : (cs.map fun c => D.str (S [c])) = ((cs.map fun c => [c]).map fun y => D.str (S y)) := by rw [List.map_map]; rfl
  rw [e] at hr
  have s1 : (List.map (fun x => x.length) (cs.map fun c => [c])).sum = cs.length := by
    clear hr e hl
    induction cs with
    | nil => rfl
    | cons a b ih => simp only [List.map_cons, List.sum_cons, ih, List.length_cons, List.length_nil]; omega
  rw [oJoin_ref hr (by rw [s1]; simp; omega), joinL_nil]
  congr 3
  clear hr e hl s1
  induction cs with
  | nil => rfl
  | cons a b ih => simp [ih]
/-! raise, a field of the caught error -/
@[simp] theorem sRaise_1 (x f : Str) (m : EM) (env : AE) (h : AH) : sRaise x [f] (lCons m lNil) env h = (m env h).thenS env fun d h1 => .exc x [(f, d)] env h1 := by
  unfold sRaise
  rw [lCons_]
  cases m env h <;> rfl
@[simp] theorem eFld_1 (f : Str) (d : D) (env : AE) (h : AH) : eFld f [(f, d)] env h = .ok d h := by
  unfold eFld
  rw [List.lookup_cons_self]
def tryS (caught : Str → Option Bool) (i : Nat) (hd : Str → List (Str × D) → SM) (o : SR) : SR := match o with
  | .exc c fs e1 h1 => (match caught c with
    | some true => if i < e1.length then (hd c fs (e1.set i none) h1).gone i else .stuck
    | some false => .exc c fs e1 h1
    | none => .stuck)
  | r => r
@[simp] theorem sTry_ (caught : Str → Option Bool) (i : Nat) (b : SM) (hd : Str → List (Str × D) → SM) (e : AE) (h : AH) : sTry caught i b hd e h = tryS caught i hd (b e h) := by
  unfold sTry tryS
  cases b e h <;> rfl
@[simp] theorem tryS_exc (caught : Str → Option Bool) (i : Nat) (hd : Str → List (Str × D) → SM) (c : Str) (fs : List (Str × D)) (e1 : AE) (h1 : AH) : tryS caught i hd (.exc c fs e1 h1) = (match caught c with
    | some true => if i < e1.length then (hd c fs (e1.set i none) h1).gone i else .stuck
    | some false => .exc c fs e1 h1
    | none => .stuck) := rfl
@[simp] theorem tryS_nx (caught : Str → Option Bool) (i : Nat) (hd : Str → List (Str × D) → SM) (e1 : AE) (h1 : AH) : tryS caught i hd (.nx e1 h1) = .nx e1 h1 := rfl
@[simp] theorem tryS_rt (caught : Str → Option Bool) (i : Nat) (hd : Str → List (Str × D) → SM) (d : D) (h1 : AH) : tryS caught i hd (.rt d h1) = .rt d h1 := rfl
@[simp] theorem gone_nx (i : Nat) (e : AE) (h : AH) : (SR.nx e h).gone i = .nx (e.set i none) h := rfl
@[simp] theorem gone_rt (i : Nat) (d : D) (h : AH) : (SR.rt d h).gone i = .rt d h := rfl
theorem fits' {n : Nat} (h : n ≤ 16777216) : Fits n := fits h
@[simp] theorem mPop_ref {r : Nat} {h : AH} : mPop (.ref r) [] h = (match h[r]? with
    | some (.lst xs) => (match xs[xs.length - 1]? with
      | some y => .ok y (h.set r (.lst xs.dropLast))
      | none => .stuck)
    | _ => .stuck) := rfl
theorem mPop_app {r : Nat} {h : AH} {xs : List D} {y : D} (hr : h[r]? = some (.lst (xs ++ [y]))) : mPop (.ref r) [] h = .ok y (h.set r (.lst xs)) := by
  rw [mPop_ref, hr]; simp
end Rf

set_option maxHeartbeats 1000000
/-! the heap of a def that changes one old thing a and lays new things L -/
namespace Rf
open PySem L2 SX
def HS (h : AH) (a : Nat) (o : AO) (L : AH) : AH := h.set a o ++ L
section
variable {h L M : AH} {a k q i : Nat} {o o' u x : AO} {d : D}
@[simp high] theorem HS_len : (HS h a o L).length = h.length + L.length := by simp [HS]
@[simp high] theorem HS_a (ha : a < h.length) : (HS h a o L)[a]? = some o := by
  unfold HS
  rw [List.getElem?_append_left (by simpa using ha), List.getElem?_set_self ha]
@[simp high] theorem HS_k : (HS h a o L)[h.length + k]? = L[k]? := by
  unfold HS
  rw [List.getElem?_append_right (by simp)]
  simp
@[simp high] theorem HS_0 : (HS h a o L)[h.length]? = L[0]? := HS_k (k := 0)
theorem HS_old (hq : q < h.length) (ne : q ≠ a) : (HS h a o L)[q]? = h[q]? := by
  unfold HS
  rw [List.getElem?_append_left (by simpa using hq), List.getElem?_set_ne (Ne.symm ne)]
@[simp high] theorem HS_set_a (ha : a < h.length) : (HS h a o L).set a o' = HS h a o' L := by
  unfold HS
  rw [List.set_append_left _ _ (by simpa using ha), List.set_set]
@[simp high] theorem HS_set_k : (HS h a o L).set (h.length + k) x = HS h a o (L.set k x) := by
  unfold HS
  rw [List.set_append_right _ _ (by simp)]
  simp
@[simp high] theorem HS_set_0 : (HS h a o L).set h.length x = HS h a o (L.set 0 x) := HS_set_k (k := 0)
@[simp high] theorem HS_app : HS h a o L ++ M = HS h a o (L ++ M) := by simp [HS]
theorem HS_nil : HS h a o [] = h.set a o := by simp [HS]
theorem HS_one : h.set a o ++ L = HS h a o L := rfl
theorem HS_start (e : h[a]? = some o) : HS h a o [] = h := by rw [HS_nil, set_self e]
theorem gc_HS (p : d.pure = true) (f : o.flat = true) : gc h (.ok d (HS h a o L)) = .ok d (h.set a o) := gc_set_app p f
theorem gc_HS_new (f : o.flat = true) (e : L[i]? = some u) (fu : u.flat = true) : gc h (.ok (.ref (h.length + i)) (HS h a o L)) = .ok (.ref h.length) (h.set a o ++ [u]) := gc_set_new f e fu
noncomputable def addO (a b : Option AO) (h : AH) : ER := match a, b with
  | some (.lst xs), some (.lst ys) => if Fits (xs.length + ys.length) then .ok (.ref h.length) (h ++ [.lst (xs ++ ys)]) else .stuck
  | _, _ => .stuck
@[simp] theorem oAdd_refs (r q : Nat) (h : AH) : oAdd (.ref r) (.ref q) h = addO h[r]? h[q]? h := rfl
@[simp] theorem addO_lst (xs ys : List D) (h : AH) : addO (some (.lst xs)) (some (.lst ys)) h = if Fits (xs.length + ys.length) then .ok (.ref h.length) (h ++ [.lst (xs ++ ys)]) else .stuck := rfl
/-- a def that lays new things alone -/
def HN (h : AH) (L : AH) : AH := h ++ L
@[simp high] theorem HN_len : (HN h L).length = h.length + L.length := by simp [HN]
@[simp high] theorem HN_k : (HN h L)[h.length + k]? = L[k]? := by
  unfold HN
  rw [List.getElem?_append_right (by simp)]
  simp
@[simp high] theorem HN_0 : (HN h L)[h.length]? = L[0]? := HN_k (k := 0)
theorem HN_old (hq : q < h.length) : (HN h L)[q]? = h[q]? := by
  unfold HN
  rw [List.getElem?_append_left hq]
theorem HN_is (e : h[q]? = some o) : (HN h L)[q]? = some o := by rw [HN_old (List.getElem?_eq_some_iff.mp e).1, e]
@[simp high] theorem HN_set_k : (HN h L).set (h.length + k) x = HN h (L.set k x) := by
  unfold HN
  rw [List.set_append_right _ _ (by simp)]
  simp
@[simp high] theorem HN_set_0 : (HN h L).set h.length x = HN h (L.set 0 x) := HN_set_k (k := 0)
@[simp high] theorem HN_app : HN h L ++ M = HN h (L ++ M) := by simp [HN]
theorem HN_nil : HN h [] = h := by simp [HN]
theorem gc_HN (p : d.pure = true) : gc h (.ok d (HN h L)) = .ok d h := gc_app p
theorem gc_HN_new (e : L[i]? = some u) (fu : u.flat = true) : gc h (.ok (.ref (h.length + i)) (HN h L)) = .ok (.ref h.length) (h ++ [u]) := gc_new e fu
theorem gc_HN_new0 (e : L[0]? = some u) (fu : u.flat = true) : gc h (.ok (.ref h.length) (HN h L)) = .ok (.ref h.length) (h ++ [u]) := gc_new (i := 0) e fu
theorem gc_HS_new0 (f : o.flat = true) (e : L[0]? = some u) (fu : u.flat = true) : gc h (.ok (.ref h.length) (HS h a o L)) = .ok (.ref h.length) (h.set a o ++ [u]) := gc_set_new (i := 0) f e fu
end
end Rf

set_option maxHeartbeats 1000000
/-! odd values: plain data of any kind, compared with texts and the empty tuple, asked for their types -/
namespace Rf
open PySem L2 SX
@[simp] theorem ci_is (i : Int) (h : AH) : cIsi [.int i, .ty "str"] h = .ok (.bl false) h := by rw [cIsi_int _ _ _ (by decide)]; rfl
@[simp] theorem ci_it (i : Int) (h : AH) : cIsi [.int i, .ty "tuple"] h = .ok (.bl false) h := by rw [cIsi_int _ _ _ (by decide)]; rfl
@[simp] theorem ci_bi (i : Bool) (h : AH) : cIsi [.bl i, .ty "int"] h = .ok (.bl true) h := by rw [cIsi_bl _ _ _ (by decide)]; rfl
@[simp] theorem ci_bb (i : Bool) (h : AH) : cIsi [.bl i, .ty "bool"] h = .ok (.bl true) h := by rw [cIsi_bl _ _ _ (by decide)]; rfl
@[simp] theorem ci_bs (i : Bool) (h : AH) : cIsi [.bl i, .ty "str"] h = .ok (.bl false) h := by rw [cIsi_bl _ _ _ (by decide)]; rfl
@[simp] theorem ci_bt (i : Bool) (h : AH) : cIsi [.bl i, .ty "tuple"] h = .ok (.bl false) h := by rw [cIsi_bl _ _ _ (by decide)]; rfl
@[simp] theorem ci_si (i : Str) (h : AH) : cIsi [.str i, .ty "int"] h = .ok (.bl false) h := by rw [cIsi_str _ _ _ (by decide)]; rfl
@[simp] theorem ci_sb (i : Str) (h : AH) : cIsi [.str i, .ty "bool"] h = .ok (.bl false) h := by rw [cIsi_str _ _ _ (by decide)]; rfl
@[simp] theorem ci_ss (i : Str) (h : AH) : cIsi [.str i, .ty "str"] h = .ok (.bl true) h := by rw [cIsi_str _ _ _ (by decide)]; rfl
@[simp] theorem ci_st (i : Str) (h : AH) : cIsi [.str i, .ty "tuple"] h = .ok (.bl false) h := by rw [cIsi_str _ _ _ (by decide)]; rfl
@[simp] theorem ci_ni (h : AH) : cIsi [.non, .ty "int"] h = .ok (.bl false) h := by rw [cIsi_non _ _ (by decide)]; rfl
@[simp] theorem ci_nb (h : AH) : cIsi [.non, .ty "bool"] h = .ok (.bl false) h := by rw [cIsi_non _ _ (by decide)]; rfl
@[simp] theorem ci_ns (h : AH) : cIsi [.non, .ty "str"] h = .ok (.bl false) h := by rw [cIsi_non _ _ (by decide)]; rfl
@[simp] theorem ci_nt (h : AH) : cIsi [.non, .ty "tuple"] h = .ok (.bl false) h := by rw [cIsi_non _ _ (by decide)]; rfl
@[simp] theorem ci_ti (ds : List D) (h : AH) : cIsi [.tup ds, .ty "int"] h = .ok (.bl false) h := by rw [cIsi_tup _ _ _ (by decide)]; rfl
@[simp] theorem ci_tb (ds : List D) (h : AH) : cIsi [.tup ds, .ty "bool"] h = .ok (.bl false) h := by rw [cIsi_tup _ _ _ (by decide)]; rfl
@[simp] theorem ci_ts (ds : List D) (h : AH) : cIsi [.tup ds, .ty "str"] h = .ok (.bl false) h := by rw [cIsi_tup _ _ _ (by decide)]; rfl
@[simp] theorem gc_b_ (b : Bool) (h : AH) : gc h (.ok (.bl b) h) = .ok (.bl b) h := gc_same rfl
@[simp] theorem gc_n_ (h : AH) : gc h (.ok .non h) = .ok .non h := gc_same rfl
@[simp] theorem gc_i_ (i : Int) (h : AH) : gc h (.ok (.int i) h) = .ok (.int i) h := gc_same rfl
@[simp] theorem gc_x_ (c : Str) (fs : List (Str × D)) (h h' : AH) : gc h (.exc c fs h') = .exc c fs h' := rfl
/-- plain data nested at most k deep -/
def Pd : Nat → D → Prop
  | _, .non => True
  | _, .bl _ => True
  | _, .int _ => True
  | _, .str x => PyData.strOk x = true
  | k + 1, .tup ds => ∀ d ∈ ds, Pd k d
  | _, _ => False
theorem Pd.tup {k : Nat} {ds : List D} (h : Pd (k + 1) (.tup ds)) : ∀ d ∈ ds, Pd k d := h
theorem Pd.mono : ∀ {k : Nat} {d : D}, Pd k d → ∀ j, k ≤ j → Pd j d
  | _, .non, _, j, _ => by cases j <;> trivial
  | _, .bl _, _, j, _ => by cases j <;> trivial
  | _, .int _, _, j, _ => by cases j <;> trivial
  | k, .str x, h, j, _ => by cases k <;> cases j <;> exact h
  | k + 1, .tup ds, h, j + 1, hj => fun d hd => Pd.mono (h d hd) j (by omega)
  | k + 1, .tup ds, h, 0, hj => absurd hj (by omega)
  | 0, .tup ds, h, _, _ => h.elim
  | k, .ty _, h, _, _ => by cases k <;> exact h.elim
  | k, .rol _, h, _, _ => by cases k <;> exact h.elim
  | k, .kt _, h, _, _ => by cases k <;> exact h.elim
  | k, .ref _, h, _, _ => by cases k <;> exact h.elim
theorem Pd.pure : ∀ {k : Nat} {d : D}, Pd k d → d.pure = true
  | _, .non, _ => rfl
  | _, .bl _, _ => rfl
  | _, .int _, _ => rfl
  | _, .str _, _ => rfl
  | k + 1, .tup ds, h => pures_iff.mpr fun d hd => Pd.pure (h d hd)
  | 0, .tup ds, h => h.elim
  | k, .ty _, h => by cases k <;> exact h.elim
  | k, .rol _, h => by cases k <;> exact h.elim
  | k, .kt _, h => by cases k <;> exact h.elim
  | k, .ref _, h => by cases k <;> exact h.elim
theorem mapM_eq {α β : Type} {f : α → Option β} {g : α → β} : ∀ {l : List α}, (∀ x ∈ l, f x = some (g x)) → l.mapM f = some (l.map g)
  | [], _ => rfl
  | a :: l, h => by
    rw [List.mapM_cons, h a (by simp), mapM_eq (l := l) fun x hx => h x (by simp [hx])]
    rfl
/-- the data that a plain value is -/
def datOf : Nat → D → PyData
  | _, .non => .none
  | _, .bl b => .bool b
  | _, .int i => .int i
  | _, .str x => .str x
  | k + 1, .tup ds => .tuple (ds.map (datOf k))
  | _, _ => .none
theorem Pd.toP : ∀ {k : Nat} {d : D}, Pd k d → ∀ (h : AH) (j : Nat), k ≤ j → d.toP h j = some (datOf k d)
  | k, .non, _, h, j, _ => by cases j <;> cases k <;> rfl
  | k, .bl _, _, h, j, _ => by cases j <;> cases k <;> rfl
  | k, .int _, _, h, j, _ => by cases j <;> cases k <;> rfl
  | k, .str x, p, h, j, _ => by
    have hx : PyData.strOk x = true := by cases k <;> exact p
    cases j <;> cases k <;> exact if_pos hx
  | k + 1, .tup ds, p, h, j + 1, hj => by
    have e : ds.mapM (D.toP h j) = some (ds.map (datOf k)) := mapM_eq fun d hd => Pd.toP (p d hd) h j (by omega)
    show (ds.mapM (D.toP h j)).map PyData.tuple = _
    rw [e]; rfl
  | k + 1, .tup ds, p, h, 0, hj => absurd hj (by omega)
  | 0, .tup ds, p, _, _, _ => p.elim
  | k, .ty _, p, _, _, _ => by cases k <;> exact p.elim
  | k, .rol _, p, _, _, _ => by cases k <;> exact p.elim
  | k, .kt _, p, _, _, _ => by cases k <;> exact p.elim
  | k, .ref _, p, _, _, _ => by cases k <;> exact p.elim
def isS (s : Str) : D → Bool
  | .str x => x == s
  | _ => false
theorem oEq_S {k : Nat} {w : D} (hw : Pd k w) (hk : k ≤ 20) {s : Str} (hs : PyData.strOk s = true) {h : AH} : oEq w (.str s) h = .ok (.bl (isS s w)) h := by
  have e2 : (D.str s).toP h 20 = some (.str s) := if_pos hs
  unfold oEq
  rw [e2, hw.toP h 20 hk]
  cases w <;> cases k <;> first | exact hw.elim | simp [datOf, isS, PyData.eqv]
theorem oNe_S {k : Nat} {w : D} (hw : Pd k w) (hk : k ≤ 20) {s : Str} (hs : PyData.strOk s = true) {h : AH} : oNe w (.str s) h = .ok (.bl (!isS s w)) h := by
  have e2 : (D.str s).toP h 20 = some (.str s) := if_pos hs
  unfold oNe
  rw [e2, hw.toP h 20 hk]
  cases w <;> cases k <;> first | exact hw.elim | simp [datOf, isS, PyData.eqv]
def isT0 : D → Bool
  | .tup ds => ds.isEmpty
  | _ => false
theorem oNe_T0 {k : Nat} {w : D} (hw : Pd k w) (hk : k ≤ 20) {h : AH} : oNe w (.tup []) h = .ok (.bl (!isT0 w)) h := by
  have e2 : (D.tup []).toP h 20 = some (.tuple []) := rfl
  unfold oNe
  rw [e2, hw.toP h 20 hk]
  cases w with
  | tup ds =>
    cases k with
    | zero => exact hw.elim
    | succ k => cases ds <;> simp [datOf, isT0, PyData.eqv, PyData.eqvAll]
  | _ => cases k <;> first | exact hw.elim | simp [datOf, isT0, PyData.eqv]
/-- an index below n -/
def idx (n : Nat) : D → Option Nat
  | .int i => if 0 ≤ i ∧ i < (n : Int) then some i.toNat else none
  | _ => none
theorem idx_some {n i : Nat} {d : D} (e : idx n d = some i) : d = dN i ∧ i < n := by
  cases d with
  | int j =>
    simp only [idx] at e
    by_cases q : 0 ≤ j ∧ j < (n : Int)
    · rw [if_pos q] at e
      have e := Option.some.inj e
      subst e
      exact ⟨by unfold dN; rw [Int.toNat_of_nonneg q.1], by omega⟩
    · rw [if_neg q] at e; exact absurd e (by simp)
  | _ => exact absurd e (by simp [idx])
theorem idx_N {n i : Nat} : idx n (dN i) = if i < n then some i else none := by
  simp only [idx, dN]
  by_cases h : i < n
  · rw [if_pos (by omega), if_pos h]; rfl
  · rw [if_neg (by omega), if_neg h]
theorem eChain_int (i : Int) (n : Nat) {a b c : EM} {e : AE} {h : AH} (ha : a e h = .ok (.int 0) h) (hb : b e h = .ok (.int i) h) (hc : c e h = .ok (.int (n : Int)) h) : eChain oLe oLt a b c e h = .ok (.bl (decide (0 ≤ i ∧ i < (n : Int)))) h := by
  unfold eChain
  by_cases q : 0 ≤ i
  · by_cases q2 : i < (n : Int)
    · simp [ha, hb, hc, q, q2, ER.then]
    · simp [ha, hb, hc, q, q2, ER.then]
  · simp [ha, hb, hc, q, ER.then]
theorem strOk_S (s : String) (h : ((Str.ofString s).cps.toList.all fun c => decide (c < 0x110000)) = true) : PyData.strOk (Str.ofString s) = true := by
  unfold PyData.strOk
  rw [← Array.all_toList]
  exact h
/-- sizes that texts and rows have -/
theorem fitsK (n : Nat) (h : n ≤ 16777216) : Fits n := fits h
@[simp] theorem powB_30 : PowB 10 30 := powB (by decide) (by decide) (by decide)
end Rf

set_option maxHeartbeats 1000000
/-! perms as lists: one after another, the inverse -/
namespace Rf
open PySem L2 SX
section
variable {n : Nat} {f s p q : List Nat}
/-- first f, then s -/
def mulP (f s : List Nat) : List Nat := f.map fun x => s.getD x 0
theorem mulP_len : (mulP f s).length = f.length := by simp [mulP]
theorem mulP_at {i : Nat} (hi : i < f.length) : (mulP f s).getD i 0 = s.getD (f.getD i 0) 0 := map_getD hi
theorem mulP_isP (P : IsP n f) (Q : IsP n s) : IsP n (mulP f s) := by
  have lf := P.len
  refine ⟨by rw [mulP_len, lf], fun i hi => by rw [mulP_at (by omega)]; exact Q.lt _ (P.lt i hi), fun i j hi hj e => ?_⟩
  rw [mulP_at (by omega), mulP_at (by omega)] at e
  exact P.inj i j hi hj (Q.inj _ _ (P.lt i hi) (P.lt j hj) e)
open Classical in
noncomputable def invP (n : Nat) (p : List Nat) : List Nat := (List.range n).map fun y => if h : ∃ i, i < n ∧ p.getD i 0 = y then Classical.choose h else 0
open Classical in
theorem invP_inv (P : IsP n p) : Inv n p (invP n p) := by
  refine ⟨by simp [invP], fun i hi => ?_⟩
  have hy := P.lt i hi
  have h : ∃ j, j < n ∧ p.getD j 0 = p.getD i 0 := ⟨i, hi, rfl⟩
  unfold invP
  rw [map_getD (d := 0) (by simpa using hy), range_D hy, dif_pos h]
  have := Classical.choose_spec h
  exact P.inj _ _ this.1 hi this.2
theorem invP_eq (P : IsP n p) (h : Inv n p q) : invP n p = q := Inv.uniq P (invP_inv P) h
theorem invP_isP (P : IsP n p) : IsP n (invP n p) := (invP_inv P).isP P
theorem invP_len : (invP n p).length = n := by simp [invP]
/-- drawn one by one from 0 .. n - 1 -/
theorem isP_perm (pm : p.Perm (List.range n)) : IsP n p := by
  have l : p.length = n := by simpa using pm.length_eq
  have nd : p.Nodup := pm.nodup_iff.mpr List.nodup_range
  refine ⟨l, fun i hi => ?_, fun i j hi hj e => nodup_getD nd (by omega) (by omega) e⟩
  have : p.getD i 0 ∈ p := getD_mem (by omega)
  exact List.mem_range.mp (pm.mem_iff.mp this)
theorem perm_pick : ∀ {l : List Nat} {d : Nat}, d < l.length → (l.getD d 0 :: l.eraseIdx d).Perm l
  | [], d, h => absurd h (by simp)
  | a :: l, 0, _ => List.Perm.refl _
  | a :: l, d + 1, h => by
    have ih := perm_pick (l := l) (d := d) (by simpa using h)
    exact (List.Perm.swap _ _ _).trans (ih.cons a)
end
end Rf

set_option maxHeartbeats 1000000
/-! reckoning: [f x for x in d.values()] where d stands still -/
namespace Rf
open PySem L2
theorem lcN_liveD {g : GM} {tt te : EM} {e0 : AE} {r : Nat} {kvs : List (Key × D)} {od : Obj} {ws : List (Key × V)} : ∀ (k i : Nat) (acc : List D) (h : AH), h[r]? = some (.lk kvs od ws) →
    (∀ (i : Nat) (d : D), (kvs.map (·.2))[i]? = some d → ∀ e1 h1, g d e0 h = .nx e1 h1 → h1 = h ∧ (∀ b h2, tt e1 h = .ok (.bl b) h2 → h2 = h) ∧ ∀ d2 h3, te e1 h = .ok d2 h3 → h3 = h) →
    lcN (liveD r kvs od ws) g tt te e0 k i acc h = lcN (stat (kvs.map (·.2))) g tt te e0 k i acc h
  | 0, i, acc, h, _, _ => rfl
  | k + 1, i, acc, h, e0', hs => by
    have nx : (liveD r kvs od ws).nxt i h = some ((kvs.map (·.2))[i]?) := by
      unfold liveD; dsimp only; rw [if_pos e0', List.getElem?_map]
    have nx2 : (stat (kvs.map (·.2))).nxt i h = some ((kvs.map (·.2))[i]?) := rfl
    unfold lcN
    rw [nx, nx2]
    cases hd : (kvs.map (·.2))[i]? with
    | none => rfl
    | some d =>
      dsimp only
      cases hg : g d e0 h with
      | nx e1 h1 =>
        obtain ⟨rfl, q1, q2⟩ := hs i d hd e1 h1 hg
        dsimp only
        cases ht : tt e1 h1 with
        | ok db h2 =>
          cases db with
          | bl b =>
            have := q1 b h2 ht
            subst this
            cases b with
            | true =>
              dsimp only
              cases he : te e1 h2 with
              | ok d2 h3 =>
                have := q2 d2 h3 he
                subst this
                dsimp only
                split
                · exact lcN_liveD k (i + 1) (acc ++ [d2]) h3 e0' hs
                · rfl
              | _ => rfl
            | false => exact lcN_liveD k (i + 1) acc h2 e0' hs
          | _ => rfl
        | _ => rfl
      | _ => rfl
theorem eLc_dvals {α : Type} {φ : α → D} {k r : Nat} {me te : EM} {vs : List Nat} {e : AE} {h : AH} {kvs : List (Key × D)} {od : Obj} {ws : List (Key × V)} (xs : List α) (f : α → D)
    (hm : me e h = .ok (.ref r) h) (hr : h[r]? = some (.lk kvs od ws)) (hk : kvs.map (·.2) = xs.map φ) (hl : xs.length ≤ sizeLine)
    (hf : ∀ x ∈ xs, te ((wipeE e vs).set k (some (φ x))) h = .ok (f x) h) : eLc (iDVals me) (gVar k) (eC (.bl true)) te vs e h = .ok (.ref h.length) (h ++ [.lst (xs.map f)]) := by
  have hi : iDVals me e h = .ok (liveD r kvs od ws) h := by unfold iDVals; rw [hm]; dsimp only; rw [hr]
  unfold eLc
  rw [hi]
  have := lc_pure (φ := φ) (k := k) (tt := eC (.bl true)) (te := te) (e0 := wipeE e vs) (h := h) (fun _ => true) f (ds := xs.map φ) xs 0 [] rfl (by simpa using hl) (fun x hx => rfl) fun x hx _ => hf x hx
  have l := lcN_liveD (g := gVar k) (tt := eC (.bl true)) (te := te) (e0 := wipeE e vs) (r := r) (kvs := kvs) (od := od) (ws := ws) (xs.length + 1) 0 [] h hr fun i d hd e1 h1' hg => by
    rw [gVar_] at hg
    cases hg
    rw [hk, List.getElem?_map] at hd
    cases hx : xs[i]? with
    | none => rw [hx] at hd; cases hd
    | some x =>
      rw [hx] at hd
      cases hd
      have mx := List.mem_of_getElem? hx
      refine ⟨rfl, fun b h2 e2 => ?_, fun d2 h3 e3 => ?_⟩
      · cases e2; rfl
      · rw [hf x mx] at e3; cases e3; rfl
  have hn : (liveD r kvs od ws).n = xs.length := by
    show kvs.length = _
    have := congrArg List.length hk
    simpa using this
  rw [hk] at l
  simp only [hn, l, this, List.nil_append]
  rw [List.filter_eq_self.mpr (by simp)]
/-- a loop that goes on or ends for good -/
def Stop : SR → Prop
  | .rt _ _ => True
  | .exc _ _ _ _ => True
  | _ => False
theorem Stop.again {o : SR} (s : Stop o) (k : SM) : again o k = o := by
  cases o <;> first | rfl | exact s.elim
theorem Stop.then {o : SR} (s : Stop o) (k : SM) : o.then k = o := by
  cases o <;> first | rfl | exact s.elim
theorem loop_stop {g : GM} {b : SM} (P : Nat → AE → AH → Prop) (S : SR → Prop) (hS : ∀ o, S o → Stop o) : ∀ (ds : List D) (k : Nat) (e : AE) (h : AH), P k e h →
    (∀ (i : Nat) (d : D) (e : AE) (h : AH), ds[i]? = some d → P (k + i) e h → (∃ e' h', (onlyNx (g d e h)).then b = .nx e' h' ∧ P (k + i + 1) e' h') ∨ S ((onlyNx (g d e h)).then b)) →
    (∃ e' h', sLoop g b ds e h = .nx e' h' ∧ P (k + ds.length) e' h') ∨ S (sLoop g b ds e h)
  | [], k, e, h, p, _ => .inl ⟨e, h, rfl, p⟩
  | d :: ds, k, e, h, p, st => by
    rcases st 0 d e h rfl p with ⟨e1, h1, q, p1⟩ | q
    · rcases loop_stop P S hS ds (k + 1) e1 h1 p1 fun i d' e' h' hd hp => by
          have hp' : P (k + (i + 1)) e' h' := by rwa [show k + (i + 1) = k + 1 + i by omega]
          rcases st (i + 1) d' e' h' (by simpa using hd) hp' with ⟨e3, h3, a, c⟩ | c
          · exact .inl ⟨e3, h3, a, by rwa [show k + 1 + i + 1 = k + (i + 1) + 1 by omega]⟩
          · exact .inr c with ⟨e2, h2, q2, p2⟩ | q2
      · refine .inl ⟨e2, h2, ?_, by rwa [List.length_cons, show k + (ds.length + 1) = k + 1 + ds.length by omega]⟩
        unfold sLoop
        rw [q]
        exact q2
      · refine .inr ?_
        unfold sLoop
        rw [q]
        exact q2
    · refine .inr ?_
      unfold sLoop
      rw [(hS _ q).again]
      exact q
end Rf

set_option maxHeartbeats 1000000
/-! reckoning: for x in range(i, j); loops that look for the first thing -/
namespace Rf
open PySem L2
theorem rgB2 {i j : Nat} (hi : i ≤ 1000000) (hj : j ≤ 1000000) : RgB2 (i : Int) (j : Int) := ⟨by omega, by omega, by omega, by omega⟩
theorem sFor_range2 {l : LM} {g : GM} {b : SM} {e : AE} {h h1 : AH} {i j : Nat} (hl : l e h = .ok [.int i, .int j] h1) (hi : i ≤ 1000000) (hj : j ≤ 1000000) : sFor (iRange2 l) g b e h = sLoop g b ((List.range (j - i)).map fun t => dN (i + t)) e h1 := by
  have e2 : ((j : Int) - (i : Int)).toNat = j - i := by omega
  have : iRange2 l e h = .ok (stat ((List.range (j - i)).map fun t => dN (i + t))) h1 := by
    unfold iRange2
    rw [hl]
    dsimp only
    rw [if_pos (rgB2 hi hj), e2]
    congr 1
  rw [sFor_stat this]
/-- the first x with f x = some y: the loop hands back ret y -/
theorem loop_find {α β : Type} {φ : α → D} {g : GM} {b : SM} (P : AE → AH → Prop) (Q : AH → Prop) (f : α → Option β) (ret : β → D) : ∀ (xs : List α) (e : AE) (h : AH), P e h →
    (∀ x ∈ xs, ∀ e h, P e h → (f x = none → ∃ e' h', (onlyNx (g (φ x) e h)).then b = .nx e' h' ∧ P e' h') ∧ ∀ y, f x = some y → ∃ h', (onlyNx (g (φ x) e h)).then b = .rt (ret y) h' ∧ Q h') →
    (xs.findSome? f = none → ∃ e' h', sLoop g b (xs.map φ) e h = .nx e' h' ∧ P e' h') ∧ ∀ y, xs.findSome? f = some y → ∃ h', sLoop g b (xs.map φ) e h = .rt (ret y) h' ∧ Q h'
  | [], e, h, p, _ => ⟨fun _ => ⟨e, h, rfl, p⟩, fun y z => (nomatch z)⟩
  | x :: xs, e, h, p, st => by
    obtain ⟨s1, s2⟩ := st x (by simp) e h p
    rw [List.findSome?_cons]
    cases q : f x with
    | some y =>
      obtain ⟨h', w, r⟩ := s2 y q
      refine ⟨fun z => (nomatch z), fun y' z => ?_⟩
      have z := Option.some.inj z
      subst z
      refine ⟨h', ?_, r⟩
      rw [List.map_cons]
      unfold sLoop
      rw [w]; rfl
    | none =>
      obtain ⟨e1, h1, w, p1⟩ := s1 q
      obtain ⟨t1, t2⟩ := loop_find P Q f ret xs e1 h1 p1 fun x' hx => st x' (by simp [hx])
      have eq : sLoop g b ((x :: xs).map φ) e h = sLoop g b (xs.map φ) e1 h1 := by
        rw [List.map_cons]
        conv => lhs; unfold sLoop
        rw [w]; rfl
      exact ⟨fun z => by rw [eq]; exact t1 z, fun y z => by rw [eq]; exact t2 y z⟩
theorem numD_map {α : Type} (f : α → D) (xs : List α) (d : α) : numD (xs.map f) = (List.range xs.length).map fun k => .tup [dN k, f (xs.getD k d)] := by
  apply List.ext_getElem?
  intro i
  rw [numD_at, List.getElem?_map, List.getElem?_map]
  by_cases hi : i < xs.length
  · rw [List.getElem?_range hi, getD_some (a := d) hi]; rfl
  · rw [List.getElem?_eq_none (by omega), List.getElem?_eq_none (by simp; omega)]; rfl
end Rf

set_option maxHeartbeats 1000000
/-! reckoning: known tuples -/
namespace Rf
open PySem L2
def ktO (o : Option AO) (h : AH) : ER := match o with
  | some (.lst es) => .ok (.kt es) h
  | _ => .stuck
@[simp] theorem cTupleK_ref_ (r : Nat) (h : AH) : cTupleK [.ref r] h = ktO h[r]? h := by
  simp only [cTupleK, listOf, ktO]
  cases h[r]? with
  | none => rfl
  | some o => cases o <;> rfl
@[simp] theorem ktO_lst (es : List D) (h : AH) : ktO (some (.lst es)) h = .ok (.kt es) h := rfl
/-- a known tuple of numbers -/
def kC (c : List Nat) : D := .kt (c.map dN)
theorem kC_pure {c : List Nat} : (kC c).pure = true := pures_map fun _ _ => rfl
theorem toP_ktN {us : List Nat} {h : AH} : (D.kt (us.map dN)).toP h 20 = some (.tuple (us.map fun u : Nat => PyData.int (u : Int))) := by
  unfold D.toP
  show ((us.map dN).mapM (D.toP h 19)).map PyData.tuple = _
  rw [mapM_toP]; rfl
theorem mIndexT_N {us : List Nat} {h : AH} {j v : Nat} (hj : j < us.length) (e : us.getD j 0 = v) (n : ∀ k, k < j → us.getD k 0 ≠ v) : mIndexT (.kt (us.map dN)) [.int (v : Int)] h = .ok (dN j) h := by
  unfold mIndexT
  dsimp only
  rw [toP_ktN, show (D.int (v : Int)).toP h 20 = some (.int v) from rfl]
  dsimp only
  rw [firstAt_N hj e n]
/-- where a perm's value stands -/
theorem mIndexT_P {n : Nat} {p : List Nat} (P : IsP n p) {h : AH} {j : Nat} (hj : j < n) : mIndexT (.kt (p.map dN)) [.int ((p.getD j 0 : Nat) : Int)] h = .ok (dN j) h :=
  mIndexT_N (by rw [P.len]; exact hj) rfl fun k hk e => by have := P.inj k j (by omega) hj e; omega
end Rf

set_option maxHeartbeats 1000000
/-! the bag of k00 .. k04: a list that holds two lists -/
namespace Law
open PySem Rf L2
/-- what a bag's owner may have changed: the bag and its first list; new things may lie behind -/
structure Ev (a g : Nat) (h h' : AH) : Prop where
  le : h.length ≤ h'.length
  eq : ∀ i, i < h.length → i ≠ a → i ≠ g → h'[i]? = h[i]?
theorem Ev.refl (a g : Nat) (h : AH) : Ev a g h h := ⟨Nat.le_refl _, fun _ _ _ _ => rfl⟩
theorem Ev.trans {a g : Nat} {h h1 h2 : AH} (x : Ev a g h h1) (y : Ev a g h1 h2) : Ev a g h h2 := ⟨Nat.le_trans x.le y.le, fun i hi ha hg => (y.eq i (Nat.lt_of_lt_of_le hi x.le) ha hg).trans (x.eq i hi ha hg)⟩
theorem Ev.get {a g r : Nat} {h h' : AH} {o : AO} (x : Ev a g h h') (e : h[r]? = some o) (ha : r ≠ a) (hg : r ≠ g) : h'[r]? = some o := by rw [x.eq r (List.getElem?_eq_some_iff.mp e).1 ha hg, e]
theorem Ev.app (a g : Nat) (h L : AH) : Ev a g h (h ++ L) := ⟨by simp, fun i hi _ _ => List.getElem?_append_left hi⟩
theorem Ev.setA {a g : Nat} {h : AH} {o : AO} : Ev a g h (h.set a o) := ⟨by simp, fun i _ ha _ => List.getElem?_set_ne (Ne.symm ha)⟩
theorem Ev.setG {a g : Nat} {h : AH} {o : AO} : Ev a g h (h.set g o) := ⟨by simp, fun i _ _ hg => List.getElem?_set_ne (Ne.symm hg)⟩
/-- some bound of the great numbers; what it is does not matter -/
def BigB (x : Int) : Prop := 0 ≤ x
structure Bg (h : AH) (a g m : Nat) (N : Nat) : Prop where
  ag : a ≠ g
  am : a ≠ m
  gm : g ≠ m
  ex : ∃ (gs ms : List Int) (b1 b3 : Int), h[a]? = some (.lst [.ref g, .int b1, .ref m, .int b3]) ∧ h[g]? = some (.lst (gs.map D.int)) ∧ h[m]? = some (.lst (ms.map D.int)) ∧ (∀ x ∈ gs, 0 ≤ x) ∧ 0 ≤ b1 ∧ (∀ x ∈ ms, 0 ≤ x ∧ x < 2147483647) ∧ ms.length ≤ 63 ∧ gs.length ≤ 63 ∧ 0 ≤ b3 ∧ b3 ≤ N
theorem Bg.mono {h : AH} {a g m N M : Nat} (b : Bg h a g m N) (l : N ≤ M) : Bg h a g m M := by
  obtain ⟨h1, h2, h3, gs, ms, b1, b3, e1, e2, e3, e4, e5, e6, e7, e8, e9, e10⟩ := b
  exact ⟨h1, h2, h3, gs, ms, b1, b3, e1, e2, e3, e4, e5, e6, e7, e8, e9, by omega⟩
theorem Bg.ev {h h' : AH} {a g m N : Nat} (b : Bg h a g m N) (e : ∀ i, i = a ∨ i = g ∨ i = m → h'[i]? = h[i]?) : Bg h' a g m N := by
  obtain ⟨h1, h2, h3, gs, ms, b1, b3, e1, e2, e3, q⟩ := b
  exact ⟨h1, h2, h3, gs, ms, b1, b3, by rw [e a (.inl rfl), e1], by rw [e g (.inr (.inl rfl)), e2], by rw [e m (.inr (.inr rfl)), e3], q⟩
theorem Bg.lt {h : AH} {a g m N : Nat} (b : Bg h a g m N) : a < h.length ∧ g < h.length ∧ m < h.length := by
  obtain ⟨_, _, _, _, _, _, _, e1, e2, e3, _⟩ := b
  exact ⟨(List.getElem?_eq_some_iff.mp e1).1, (List.getElem?_eq_some_iff.mp e2).1, (List.getElem?_eq_some_iff.mp e3).1⟩
theorem Bg.app {h L : AH} {a g m N : Nat} (b : Bg h a g m N) : Bg (h ++ L) a g m N := by
  obtain ⟨l1, l2, l3⟩ := b.lt
  exact b.ev fun i hi => List.getElem?_append_left (by rcases hi with rfl | rfl | rfl <;> assumption)
/-- a heap of the same length is left as it is -/
theorem gc_len {h h' : AH} {d : D} (l : h'.length = h.length) (p : d.pure = true) : gc h (.ok d h') = .ok d h' := by
  by_cases k : Keep h h'
  · rw [gc_pure k p, ← l, List.take_length]
  · unfold gc
    simp only [if_neg k]
theorem sqR {a b : SM} {e e1 : AE} {h h1 : AH} {r : SR} (ha : a e h = .nx e1 h1) (hb : b e1 h1 = r) : sSeq a b e h = r := by rw [sSeq_, ha]; exact hb
theorem mixOk {x : Int} (h0 : 0 ≤ x) (h1 : x < 2147483647) {y : Int} (g0 : 0 ≤ y) (g1 : y < 2147483647) : CMulX x y := mulB (by omega) (by omega) (by omega) (by omega)
theorem take_spec {h : AH} {a g m N : Nat} (B : Bg h a g m N) (hN : N ≤ 1000000000) {s : Int} (hs : 0 < s) (hs2 : s ≤ 1000000) :
    ∃ (d : Nat) (h' : AH), c__law_take [.ref a, .int s] h = .ok (.int d) h' ∧ (d : Int) < s ∧ Bg h' a g m (N + 1) ∧ Ev a g h h' ∧ h'.length = h.length := by
  obtain ⟨ag, am, gm, gs, ms, b1, b3, ea, eg, em, hgs, hb1, hms, lms, lgs, hb3, hbN⟩ := B
  have hd : DivOk s := divB hs (by omega)
  have hal := (List.getElem?_eq_some_iff.mp ea).1
  have hgl := (List.getElem?_eq_some_iff.mp eg).1
  -- the first number
  obtain ⟨gs', c1, h1, w1, ea1, eg1, em1, hgs', hc1, lgs', E1, L1⟩ : ∃ (gs' : List Int) (c1 : Int) (h1 : AH), sIf (eAnd (eOp oEq (eOp oIx (eVar 0) (eC (.int 1))) (eC (.int 0))) (eUn oTruth (eOp oIx (eVar 0) (eC (.int 0)))))
    (sAsg (eMeth "list" mPopAt (eOp oIx (eVar 0) (eC (.int 0))) (lCons (eC (.int 0)) lNil)) (fun d e h => onlyNx ((gSub putL (eVar 0) (eC (.int 1))) d e h)))
    sPass [some (.ref a), some (.int s), none, none, none, none] h = .nx [some (.ref a), some (.int s), none, none, none, none] h1 ∧ h1[a]? = some (.lst [.ref g, .int c1, .ref m, .int b3]) ∧ h1[g]? = some (.lst (gs'.map D.int)) ∧ h1[m]? = some (.lst (ms.map D.int)) ∧ (∀ x ∈ gs', 0 ≤ x) ∧ 0 ≤ c1 ∧ gs'.length ≤ 63 ∧ Ev a g h h1 ∧ h1.length = h.length := by
    by_cases q : b1 = 0
    · cases gs with
      | nil =>
        refine ⟨[], b1, h, ?_, ea, eg, em, hgs, hb1, lgs, Ev.refl _ _ _, rfl⟩
        have ot : oTruth (.ref g) h = .ok (.bl false) h := by unfold oTruth; dsimp only; rw [eg]; rfl
        simp [ea, q, ot]
      | cons x gs =>
        refine ⟨gs, x, (h.set g (.lst (gs.map D.int))).set a (.lst [.ref g, .int x, .ref m, .int b3]), ?_, ?_, ?_, ?_, fun y hy => hgs y (by simp [hy]), hgs x (by simp), by simp at lgs; omega, Ev.setG.trans Ev.setA, by simp⟩
        · have ea2 : (h.set g (.lst (gs.map D.int)))[a]? = some (.lst [.ref g, .int b1, .ref m, .int b3]) := by rw [List.getElem?_set_ne (Ne.symm ag), ea]
          have ot : oTruth (.ref g) h = .ok (.bl true) h := by unfold oTruth; dsimp only; rw [eg]; rfl
          have fx : Fits (gs.length + 1) := fits (by simp at lgs; omega)
          have pp : mPopAt (.ref g) [.int 0] h = .ok (.int x) (h.set g (.lst (gs.map D.int))) := by
            have i0 : L2.ixN (gs.length + 1) 0 = some 0 := by simp [L2.ixN]
            unfold mPopAt
            dsimp only
            rw [eg]
            simp [i0, fx]
          have ty : tyOk h "list" (.ref g) = true := by simp [tyOk, eg]
          simp [ea, q, ot, pp, ty, ea2]
        · rw [List.getElem?_set_self (by simpa using hal)]
        · rw [List.getElem?_set_ne ag, List.getElem?_set_self hgl]
        · rw [List.getElem?_set_ne am, List.getElem?_set_ne gm, em]
    · refine ⟨gs, b1, h, ?_, ea, eg, em, hgs, hb1, lgs, Ev.refl _ _ _, rfl⟩
      simp [ea, eg, q]
  have hal1 : a < h1.length := by omega
  have fin : ∀ (v : Int) (c3 d3 : Int), 0 ≤ v → v < s → 0 ≤ c3 → 0 ≤ d3 → d3 ≤ b3 + 1 → c__law_take [.ref a, .int s] h = gc h (.ok (.int v) (h1.set a (.lst [.ref g, .int c3, .ref m, .int d3]))) →
      ∃ (d : Nat) (h' : AH), c__law_take [.ref a, .int s] h = .ok (.int d) h' ∧ (d : Int) < s ∧ Bg h' a g m (N + 1) ∧ Ev a g h h' ∧ h'.length = h.length := fun v c3 d3 v0 v1 z1 z2 z3 e =>
    ⟨v.toNat, h1.set a (.lst [.ref g, .int c3, .ref m, .int d3]), by rw [e, gc_len (by simp [L1]) rfl, Int.toNat_of_nonneg v0], by omega,
      ⟨ag, am, gm, gs', ms, c3, d3, List.getElem?_set_self hal1, by rw [List.getElem?_set_ne ag, eg1], by rw [List.getElem?_set_ne am, em1], hgs', z1, hms, lms, lgs', z2, by omega⟩, E1.trans Ev.setA, by simp [L1]⟩
  have st : c__law_take [.ref a, .int s] h = gc h (outS (m__law_take [some (.ref a), some (.int s), none, none, none, none] h)) := rfl
  have em' : ∀ x : Int, x % s < s ∧ 0 ≤ x % s := fun x => ⟨Int.emod_lt_of_pos _ hs, Int.emod_nonneg _ (by omega)⟩
  by_cases c0 : 0 < c1
  · refine fin (c1 % s) (c1 / s) b3 (em' _).2 (em' _).1 (Int.ediv_nonneg hc1 (by omega)) hb3 (by omega) ?_
    rw [st]
    unfold m__law_take
    rw [sqR w1 rfl]
    simp [ea1, c0, oMod_, oDiv_, hs, hd]
  · have c0' : c1 = 0 := by omega
    subst c0'
    obtain ⟨h2, hh2⟩ : ∃ h2, h2 = h1.set a (.lst [.ref g, .int 0, .ref m, .int (b3 + 1)]) := ⟨_, rfl⟩
    have ea2 : h2[a]? = some (.lst [.ref g, .int 0, .ref m, .int (b3 + 1)]) := by rw [hh2]; exact List.getElem?_set_self hal1
    have em2 : h2[m]? = some (.lst (ms.map D.int)) := by rw [hh2, List.getElem?_set_ne am, em1]
    -- the cell
    obtain ⟨cell, hc0, hc9, wc⟩ : ∃ cell : Int, 0 ≤ cell ∧ cell < 2147483647 ∧ sIf (eUn oTruth (eVar 3)) (sSet 4 (eOp oIx (eVar 3) (eOp oMod (eCall cInt (lCons (eOp oIx (eVar 0) (eC (.int 3))) lNil)) (eCall cLen (lCons (eVar 3) lNil))))) sPass [some (.ref a), some (.int s), none, some (.ref m), some (.int 0), none] h2 = .nx [some (.ref a), some (.int s), none, some (.ref m), some (.int cell), none] h2 := by
      by_cases q : ms = []
      · subst q
        refine ⟨0, by omega, by omega, ?_⟩
        have ot : oTruth (.ref m) h2 = .ok (.bl false) h2 := by unfold oTruth; dsimp only; rw [em2]; rfl
        simp [ot]
      · have lp : 0 < ms.length := List.length_pos_iff.mpr q
        have lp' : (0 : Int) < (ms.length : Int) := by omega
        obtain ⟨k, hk⟩ : ∃ k : Nat, (b3 + 1) % (ms.length : Int) = (k : Int) := ⟨((b3 + 1) % (ms.length : Int)).toNat, by rw [Int.toNat_of_nonneg (Int.emod_nonneg _ (by omega))]⟩
        have kl : k < ms.length := by have := Int.emod_lt_of_pos (b3 + 1) lp'; omega
        have ot : oTruth (.ref m) h2 = .ok (.bl true) h2 := by
          unfold oTruth; dsimp only; rw [em2]
          cases ms with
          | nil => exact absurd rfl q
          | cons _ _ => rfl
        have xk : ∀ h, ixD (ms.map D.int) (k : Int) h = .ok (.int ms[k]) h := fun h => ixD_some (by simp [kl])
        refine ⟨ms[k], (hms _ (List.getElem_mem kl)).1, (hms _ (List.getElem_mem kl)).2, ?_⟩
        simp [ot, ea2, em2, oMod_, lp, lp', hk, xk]
    -- the mix
    have lm : (0 : Int) ≤ (ms.length : Int) ∧ (ms.length : Int) ≤ 63 := by omega
    have k1 : CMulX cell 48271 := mulB (by omega) (by omega) (by omega) (by omega)
    have k2 : CMulX (b3 + 1) 69621 := mulB (by omega) (by omega) (by omega) (by omega)
    have k3 : CMulX (ms.length : Int) 7919 := mulB (by omega) (by omega) (by omega) (by omega)
    generalize hm1 : (cell * 48271 + (b3 + 1) * 69621 + (ms.length : Int) * 7919 + 12345) % 2147483647 = x1
    have x1b : 0 ≤ x1 ∧ x1 < 2147483647 := by omega
    have k4 : CMulX x1 x1 := mulB (by omega) (by omega) (by omega) (by omega)
    have k5 : CMulX x1 16807 := mulB (by omega) (by omega) (by omega) (by omega)
    generalize hm2 : (x1 * x1 + x1 * 16807 + (b3 + 1)) % 2147483629 = x2
    have x2b : 0 ≤ x2 ∧ x2 < 2147483629 := by rw [← hm2]; exact ⟨Int.emod_nonneg _ (by omega), Int.emod_lt_of_pos _ (by omega)⟩
    have k6 : CMulX x2 x2 := mulB (by omega) (by omega) (by omega) (by omega)
    have k7 : CMulX x2 40692 := mulB (by omega) (by omega) (by omega) (by omega)
    generalize hm3 : (x2 * x2 + x2 * 40692 + 777) % 2147483587 = x3
    have d11 : DivOk 11 := divB (by omega) (by omega)
    refine fin (x3 / 11 % s) 0 (b3 + 1) (em' _).2 (em' _).1 (by omega) (by omega) (by omega) ?_
    suffices key : m__law_take [some (.ref a), some (.int s), none, none, none, none] h = .rt (.int (x3 / 11 % s)) h2 by
      rw [st, key, hh2]; rfl
    unfold m__law_take
    refine sqR w1 ?_
    refine sqR (e1 := [some (.ref a), some (.int s), none, none, none, none]) (h1 := h1) (by simp [ea1]) ?_
    refine sqR (e1 := [some (.ref a), some (.int s), none, none, none, none]) (h1 := h2) (by simp [ea1, hh2]) ?_
    refine sqR (e1 := [some (.ref a), some (.int s), none, some (.ref m), none, none]) (h1 := h2) (by simp [ea2]) ?_
    refine sqR (e1 := [some (.ref a), some (.int s), none, some (.ref m), some (.int 0), none]) (h1 := h2) (by simp) ?_
    refine sqR wc ?_
    refine sqR (e1 := [some (.ref a), some (.int s), none, some (.ref m), some (.int cell), some (.int x1)]) (h1 := h2) (by simp [ea2, em2, oMod_, oMul_, k1, k2, k3, hm1]) ?_
    refine sqR (e1 := [some (.ref a), some (.int s), none, some (.ref m), some (.int cell), some (.int x2)]) (h1 := h2) (by simp [ea2, oMod_, oMul_, k4, k5, hm2]) ?_
    refine sqR (e1 := [some (.ref a), some (.int s), none, some (.ref m), some (.int cell), some (.int x3)]) (h1 := h2) (by simp [oMod_, oMul_, k6, k7, hm3]) ?_
    simp [oMod_, oDiv_, d11, hs]
end Law

set_option maxHeartbeats 1000000
/-! the bag -/
namespace Law
open PySem Rf L2
theorem room_step {x : Int} {i : Nat} (hi : i < 4) (h0 : 0 < x) (h : x.natAbs < 2 ^ (200 * 2 ^ i)) : CMulX x x ∧ 0 < x * x ∧ (x * x).natAbs < 2 ^ (200 * 2 ^ (i + 1)) := by
  have l : (2 : Nat) ^ (200 * 2 ^ i) ≤ 2 ^ 1600 := Nat.pow_le_pow_right (by omega) (by
    have : (2 : Nat) ^ i ≤ 2 ^ 3 := Nat.pow_le_pow_right (by omega) (by omega)
    omega)
  have l2 : (2 : Nat) ^ 1600 < 2 ^ 10000 := Nat.pow_lt_pow_right (by omega) (by omega)
  refine ⟨mulOk (by omega) (by omega), Int.mul_pos h0 h0, ?_⟩
  rw [Int.natAbs_mul, Nat.pow_succ, ← Nat.mul_assoc, Nat.mul_comm (200 * 2 ^ i) 2, Nat.two_mul, Nat.pow_add]
  exact Nat.mul_lt_mul_of_lt_of_lt h h
theorem bag_spec {h : AH} {ns : List Int} (hl : ns.length ≤ 63) : ∃ (a g m : Nat) (h' : AH), c__law_bag [.rol (ns.map D.int)] h = .ok (.ref a) h' ∧ Bg h' a g m 0 ∧ h.length ≤ h'.length ∧ (∀ i, i < h.length → h'[i]? = h[i]?) ∧ h.length ≤ a ∧ h.length ≤ g ∧ h.length ≤ m := by
  obtain ⟨X, hX⟩ : ∃ X, X = D.rol (ns.map D.int) := ⟨_, rfl⟩
  have p60 : (0 : Int) < 10 ^ 60 ∧ ((10 : Int) ^ 60).natAbs < 2 ^ (200 * 2 ^ 0) := by decide
  obtain ⟨e1, h1, w1, R, x2, rfl, rfl, r0, r1⟩ := loopN (k := 2) (b := lb__law_bag_1)
    (fun i e h' => ∃ (R : Int) (x2 : Option D), e = [some X, some (.int R), x2, none, none, none] ∧ h = h' ∧ 0 < R ∧ R.natAbs < 2 ^ (200 * 2 ^ i))
    4 (e := [some X, some (.int (10 ^ 60)), none, none, none, none]) (h := h) ⟨10 ^ 60, none, rfl, rfl, p60.1, p60.2⟩ (by
      rintro i e h' hi ⟨R, x2, rfl, rfl, r0, r1⟩
      obtain ⟨c, q0, q1⟩ := room_step hi r0 r1
      refine ⟨_, _, ?_, R * R, some (dN i), rfl, rfl, q0, q1⟩
      simp [lb__law_bag_1, oMul_, c])
  have ht : cutD (ns.map D.int) none (some 63) = ns.map D.int := by
    rw [show (63 : Int) = ((63 : Nat) : Int) from rfl, cutD_to, List.take_of_length_le (by simpa using hl)]
  have sz : ns.length ≤ sizeLine := by rw [sizeLine_eq]; omega
  obtain ⟨I, hI⟩ : ∃ I, I = AO.lst (ns.map D.int) := ⟨_, rfl⟩
  have lc1 : lc__law_bag_1 [some X, some (.int R), x2, none, none, none] h = .ok (.ref (h.length + 1)) (h ++ [I, I]) := by
    unfold lc__law_bag_1
    have g0 : (h ++ [I])[h.length]? = some (.lst (ns.map D.int)) := by rw [hI]; simp
    have z := eLc_pureL (φ := D.int) (k := 4) (r := h.length) (mi := iVal (eSl (eVar 0) none (some (eC (.int 63))))) (tt := eC (.bl true)) (te := eCall cInt (lCons (eVar 4) lNil)) (vs := [4]) (e := [some X, some (.int R), x2, none, none, none]) (h := h) (h1 := h ++ [I]) ns (fun _ => true) (fun x => D.int x)
      (by
        have := iVal_ref (m := eSl (eVar 0) none (some (eC (.int 63)))) (e := [some X, some (.int R), x2, none, none, none]) (h := h) (h1 := h ++ [I]) (r := h.length) (ds := ns.map D.int) (by rw [hX]; simp [ht, hI]) g0
        simpa using this) g0 sz (fun _ _ => rfl) (fun x _ => by simp [wipeE])
    rw [z, List.filter_eq_self.mpr (by simp), hI]
    simp
  obtain ⟨gs, hgs⟩ : ∃ gs : List Int, gs = (ns.filter fun x => decide ((10 : Int) ^ 18 ≤ x)).map fun x => x % R := ⟨_, rfl⟩
  have lc2 : lc__law_bag_2 [some X, some (.int R), x2, some (.ref (h.length + 1)), none, none] (h ++ [I, I]) = .ok (.ref (h.length + 2)) (h ++ [I, I, .lst (gs.map D.int)]) := by
    unfold lc__law_bag_2
    have g1 : (h ++ [I, I])[h.length + 1]? = some (.lst (ns.map D.int)) := by rw [app_get, hI]; rfl
    have z := eLc_pureL (φ := D.int) (k := 4) (r := h.length + 1) (mi := iVal (eVar 3)) (tt := eOp oGe (eVar 4) (eOp oPowB (eC (.int 10)) (eC (.int 18)))) (te := eOp oMod (eCall cInt (lCons (eVar 4) lNil)) (eVar 1)) (vs := [4]) (e := [some X, some (.int R), x2, some (.ref (h.length + 1)), none, none]) (h := h ++ [I, I]) (h1 := h ++ [I, I]) ns (fun x => decide ((10 : Int) ^ 18 ≤ x)) (fun x => D.int (x % R))
      (by
        have := iVal_ref (m := eVar 3) (e := [some X, some (.int R), x2, some (.ref (h.length + 1)), none, none]) (h := h ++ [I, I]) (h1 := h ++ [I, I]) (r := h.length + 1) (ds := ns.map D.int) (by simp) g1
        simpa using this) g1 sz (fun x _ => by simp [wipeE]) (fun x _ => by simp [wipeE, oMod_, r0])
    rw [z, hgs, List.map_map]
    simp [Function.comp_def]
  obtain ⟨ms, hms⟩ : ∃ ms : List Int, ms = ns.map fun x => x % 2147483647 := ⟨_, rfl⟩
  have lc3 : lc__law_bag_3 [some X, some (.int R), x2, some (.ref (h.length + 1)), none, some (.ref (h.length + 2))] (h ++ [I, I, .lst (gs.map D.int)]) = .ok (.ref (h.length + 3)) (h ++ [I, I, .lst (gs.map D.int), .lst (ms.map D.int)]) := by
    unfold lc__law_bag_3
    have g1 : (h ++ [I, I, .lst (gs.map D.int)])[h.length + 1]? = some (.lst (ns.map D.int)) := by rw [app_get, hI]; rfl
    have z := eLc_pureL (φ := D.int) (k := 4) (r := h.length + 1) (mi := iVal (eVar 3)) (tt := eC (.bl true)) (te := eOp oMod (eCall cInt (lCons (eVar 4) lNil)) (eC (.int 2147483647))) (vs := [4]) (e := [some X, some (.int R), x2, some (.ref (h.length + 1)), none, some (.ref (h.length + 2))]) (h := h ++ [I, I, .lst (gs.map D.int)]) (h1 := h ++ [I, I, .lst (gs.map D.int)]) ns (fun _ => true) (fun x => D.int (x % 2147483647))
      (by
        have := iVal_ref (m := eVar 3) (e := [some X, some (.int R), x2, some (.ref (h.length + 1)), none, some (.ref (h.length + 2))]) (h := h ++ [I, I, .lst (gs.map D.int)]) (h1 := h ++ [I, I, .lst (gs.map D.int)]) (r := h.length + 1) (ds := ns.map D.int) (by simp) g1
        simpa using this) g1 sz (fun _ _ => rfl) (fun x _ => by simp [wipeE, oMod_])
    rw [z, hms, List.filter_eq_self.mpr (by simp), List.map_map]
    simp [Function.comp_def]
  obtain ⟨L, hL⟩ : ∃ L, L = [I, I, .lst (gs.map D.int), .lst (ms.map D.int), .lst [.ref (h.length + 2), .int 0, .ref (h.length + 3), .int 0]] := ⟨_, rfl⟩
  refine ⟨h.length + 4, h.length + 2, h.length + 3, h ++ L, ?_, ⟨by omega, by omega, by omega, gs, ms, 0, 0, by rw [app_get, hL]; rfl, by rw [app_get, hL]; rfl, by rw [app_get, hL]; rfl, fun x hx => ?_, by omega, fun x hx => ?_, by rw [hms]; simpa using hl, ?_, by omega, by omega⟩, by simp, fun i hi => List.getElem?_append_left hi, by omega, by omega, by omega⟩
  · have e : c__law_bag [X] h = gc h (.ok (.ref (h.length + 4)) (h ++ L)) := by
      have rB : RgB (4 : Int) := rgB_nat (n := 4) (by omega)
      have pw : PowB 10 60 := powB (by decide) (by decide) (by decide)
      have f4 : Fits 4 := fits (by omega)
      suffices key : m__law_bag [some X, none, none, none, none, none] h = .rt (.ref (h.length + 4)) (h ++ L) by
        show gc h (outS (m__law_bag [some X, none, none, none, none, none] h)) = _
        rw [key]; rfl
      unfold m__law_bag
      refine sqR (e1 := [some X, some (.int (10 ^ 60)), none, none, none, none]) (h1 := h) (by
        have : (D.int (10 ^ (60 : Int).toNat)) = D.int (10 ^ 60) := rfl
        simp only [sSet_, eOp_, eC_, then_ok, oPowB_, if_pos pw, thenS_ok]
        rfl) ?_
      refine sqR (e1 := [some X, some (.int R), x2, none, none, none]) (h1 := h) (by
        have ir := iRange1_nat (m := eC (.int 4)) (n := 4) (e := [some X, some (.int (10 ^ 60)), none, none, none, none]) (h := h) (h1 := h) rfl (by omega)
        rw [sFor_stat ir]
        exact w1) ?_
      refine sqR (e1 := [some X, some (.int R), x2, some (.ref (h.length + 1)), none, none]) (h1 := h ++ [I, I]) (by rw [sSet_, lc1]; rfl) ?_
      refine sqR (e1 := [some X, some (.int R), x2, some (.ref (h.length + 1)), none, some (.ref (h.length + 2))]) (h1 := h ++ [I, I, .lst (gs.map D.int)]) (by rw [sSet_, lc2]; rfl) ?_
      have eL : h ++ [I, I, AO.lst (gs.map D.int), .lst (ms.map D.int)] ++ [.lst [.ref (h.length + 2), .int 0, .ref (h.length + 3), .int 0]] = h ++ L := by rw [hL]; simp
      have l4 : (h ++ [I, I, AO.lst (gs.map D.int), .lst (ms.map D.int)]).length = h.length + 4 := by simp
      rw [← eL]
      generalize h ++ [I, I, AO.lst (gs.map D.int), .lst (ms.map D.int)] = H4 at *
      generalize h ++ [I, I, AO.lst (gs.map D.int)] = H3 at *
      simp [lc3, f4, l4]
    rw [← hX, e]
    exact gc_deep (o := .lst [.ref (h.length + 2), .int 0, .ref (h.length + 3), .int 0]) (by rw [app_get, hL]; rfl) rfl
  · rw [hgs] at hx
    obtain ⟨y, _, rfl⟩ := List.mem_map.mp hx
    exact Int.emod_nonneg _ (by omega)
  · rw [hms] at hx
    obtain ⟨y, _, rfl⟩ := List.mem_map.mp hx
    exact ⟨Int.emod_nonneg _ (by omega), Int.emod_lt_of_pos _ (by omega)⟩
  · rw [hgs, List.length_map]
    exact Nat.le_trans (List.length_filter_le _ _) hl
end Law


set_option maxHeartbeats 1000000
/-! perms that the law draws -/
namespace Law
open PySem Rf L2
/-- what a call leaves: the bag as it should be, older things as they were -/
structure Aft (a g m N : Nat) (h h' : AH) : Prop where
  bg : Bg h' a g m N
  ev : Ev a g h h'
theorem Aft.step {a g m N M : Nat} {h h1 h2 : AH} (x : Aft a g m N h h1) (y : Aft a g m M h1 h2) : Aft a g m M h h2 := ⟨y.bg, x.ev.trans y.ev⟩
theorem gc_aft {a g m N : Nat} {h h' : AH} {d : D} (l : a < h.length ∧ g < h.length ∧ m < h.length) (x : Aft a g m N h h') (p : d.pure = true) : ∃ h2, gc h (.ok d h') = .ok d h2 ∧ Aft a g m N h h2 := by
  by_cases k : Keep h h'
  · refine ⟨h'.take h.length, gc_pure k p, x.bg.ev fun i hi => ?_, ⟨by have := x.ev.le; simp; omega, fun i hi ha hg => ?_⟩⟩
    · have hl : i < h.length := by
        rcases hi with e | e | e
        · omega
        · omega
        · omega
      rw [List.getElem?_take_of_lt hl]
    · rw [List.getElem?_take_of_lt hi]; exact x.ev.eq i hi ha hg
  · refine ⟨h', ?_, x⟩
    unfold gc
    simp only [if_neg k]
/-- the same for a new flat list: it stands somewhere -/
theorem takeA {h : AH} {a g m N : Nat} (B : Bg h a g m N) (hN : N ≤ 1000000000) {s : Nat} (hs : 0 < s) (hs2 : s ≤ 1000000) :
    ∃ (d : Nat) (h' : AH), c__law_take [.ref a, .int (s : Int)] h = .ok (.int d) h' ∧ d < s ∧ Aft a g m (N + 1) h h' ∧ h'.length = h.length := by
  obtain ⟨d, h', w, hd, B', E, L⟩ := take_spec B hN (s := (s : Int)) (by omega) (by omega)
  exact ⟨d, h', w, by omega, ⟨B', E⟩, L⟩
theorem Bg.set {h : AH} {a g m N r : Nat} {o : AO} (b : Bg h a g m N) (h1 : r ≠ a) (h2 : r ≠ g) (h3 : r ≠ m) : Bg (h.set r o) a g m N := b.ev fun i hi => List.getElem?_set_ne (by rcases hi with rfl | rfl | rfl <;> assumption)
theorem rot_isP {n t : Nat} (h1 : 1 ≤ n) : IsP n ((List.range n).map fun k => (k + t) % n) := by
  have at_ : ∀ i, i < n → ((List.range n).map fun k => (k + t) % n).getD i 0 = (i + t) % n := fun i hi => by
    rw [List.getD_eq_getElem?_getD, List.getElem?_map, List.getElem?_range hi]; rfl
  refine ⟨by simp, fun i hi => by rw [at_ i hi]; exact Nat.mod_lt _ (by omega), fun i j hi hj e => ?_⟩
  rw [at_ i hi, at_ j hj] at e
  rcases Nat.le_total i j with c | c
  · have z := Nat.sub_mod_eq_zero_of_mod_eq e.symm
    rw [show j + t - (i + t) = j - i by omega, Nat.mod_eq_of_lt (by omega)] at z
    omega
  · have z := Nat.sub_mod_eq_zero_of_mod_eq e
    rw [show i + t - (j + t) = i - j by omega, Nat.mod_eq_of_lt (by omega)] at z
    omega
end Law

set_option maxHeartbeats 1000000
namespace Law
open PySem Rf L2
theorem perm_spec {h : AH} {a g m N : Nat} (B : Bg h a g m N) {n : Nat} (n1 : 1 ≤ n) (n2 : n ≤ 1000) (hN : N + n + 10 ≤ 1000000000) :
    ∃ (p : List Nat) (h' : AH), c__law_perm [.ref a, dN n] h = .ok (dC p) h' ∧ IsP n p ∧ Aft a g m (N + n + 3) h h' := by
  obtain ⟨la, lg, lm⟩ := B.lt
  obtain ⟨ch, h1, w1, hc, A1, L1⟩ := takeA B (by omega) (s := 6) (by omega) (by omega)
  have r2 : RgOk 0 (n : Int) := rgOk_nat (by omega)
  obtain ⟨H, hH⟩ : ∃ H, H = h1 ++ [AO.lst ((List.range n).map dN)] := ⟨_, rfl⟩
  obtain ⟨q, hq⟩ : ∃ q, q = h1.length := ⟨_, rfl⟩
  have qa : q ≠ a := by omega
  have qg : q ≠ g := by omega
  have qm : q ≠ m := by omega
  have Hq : H[q]? = some (.lst ((List.range n).map dN)) := by rw [hH, hq]; simp
  have AH_ : Aft a g m (N + 1) h H := ⟨by rw [hH]; exact A1.bg.app, by rw [hH]; exact A1.ev.trans (Ev.app _ _ _ _)⟩
  -- how each way ends
  have fin : ∀ (p : List Nat) (h' : AH), IsP n p → Aft a g m (N + n + 3) h h' → m__law_perm [some (.ref a), some (dN n), none, none, none, none, none, none] h = .rt (dC p) h' →
      ∃ (p : List Nat) (h' : AH), c__law_perm [.ref a, dN n] h = .ok (dC p) h' ∧ IsP n p ∧ Aft a g m (N + n + 3) h h' := fun p h' P A e => by
    obtain ⟨h2, w, A2⟩ := gc_aft B.lt A (d := dC p) (by simp [dC])
    exact ⟨p, h2, by
      show gc h (outS (m__law_perm [some (.ref a), some (dN n), none, none, none, none, none, none] h)) = _
      rw [e]; exact w, P, A2⟩
  have s1 : sSet 2 (eCall (argn 2 c__law_take) (lCons (eVar 0) (lCons (eC (.int 6)) lNil))) [some (.ref a), some (dN n), none, none, none, none, none, none] h = .nx [some (.ref a), some (dN n), some (dN ch), none, none, none, none, none] h1 := by
    have w1' : c__law_take [.ref a, .int 6] h = .ok (.int ch) h1 := w1
    simp [w1', dN]
  have s2 : sSet 3 (eRg1 false (eVar 1)) [some (.ref a), some (dN n), some (dN ch), none, none, none, none, none] h1 = .nx [some (.ref a), some (dN n), some (dN ch), some (.ref q), none, none, none, none] H := by
    rw [hH, hq]
    simp [dN, r2, rg_zero]
  by_cases c0 : ch = 0
  · refine fin (List.range n) H (IsP.range n) ⟨AH_.bg.mono (by omega), AH_.ev⟩ ?_
    unfold m__law_perm
    refine sqR s1 (sqR s2 ?_)
    subst c0
    simp [dN, Hq, dC]
  obtain ⟨t, h2, w2, ht, A2, L2⟩ := takeA AH_.bg (by omega) (s := n) (by omega) (by omega)
  have Hq2 : h2[q]? = some (.lst ((List.range n).map dN)) := A2.ev.get Hq qa qg
  have AA := AH_.step A2
  have c0' : ¬ (ch : Int) = 0 := by omega
  have s3 : sIf (eOp oEq (eVar 2) (eC (.int 0))) (sRet (eCall cTuple (lCons (eVar 3) lNil))) sPass [some (.ref a), some (dN n), some (dN ch), some (.ref q), none, none, none, none] H = .nx [some (.ref a), some (dN n), some (dN ch), some (.ref q), none, none, none, none] H := by
    simp [dN, c0, c0']
  have s4 : sSet 4 (eCall (argn 2 c__law_take) (lCons (eVar 0) (lCons (eVar 1) lNil))) [some (.ref a), some (dN n), some (dN ch), some (.ref q), none, none, none, none] H = .nx [some (.ref a), some (dN n), some (dN ch), some (.ref q), some (dN t), none, none, none] h2 := by
    have w2' : c__law_take [.ref a, dN n] H = .ok (dN t) h2 := w2
    simp [w2']
  by_cases c1 : ch = 1
  · refine fin ((List.range n).map fun k => (k + t) % n) (h2 ++ [.lst (((List.range n).map fun k => (k + t) % n).map dN)]) (rot_isP n1) ⟨AA.bg.app.mono (by omega), AA.ev.trans (Ev.app _ _ _ _)⟩ ?_
    unfold m__law_perm
    refine sqR s1 (sqR s2 (sqR s3 (sqR s4 ?_)))
    have lc : lc__law_perm_1 [some (.ref a), some (dN n), some (dN ch), some (.ref q), some (dN t), none, none, none] h2 = .ok (.ref h2.length) (h2 ++ [.lst (((List.range n).map fun k => (k + t) % n).map dN)]) := by
      unfold lc__law_perm_1
      have z := eLc_map (φ := dN) (k := 5) (mi := iRange1 (lCons (eVar 1) lNil)) (te := eOp oMod (eOp oAdd (eVar 5) (eVar 4)) (eVar 1)) (vs := [5]) (e := [some (.ref a), some (dN n), some (dN ch), some (.ref q), some (dN t), none, none, none]) (h := h2) (h1 := h2) (List.range n) (fun k => dN ((k + t) % n)) (iRange1_nat (n := n) (by simp [dN]) (by omega)) (by rw [List.length_range, sizeLine_eq]; omega) fun k hk => by
          have md : ((k : Int) + (t : Int)) % (n : Int) = (((k + t) % n : Nat) : Int) := by rw [Int.natCast_emod]; rfl
          have n0 : 0 < n := n1
          generalize (k + t) % n = v at *
          simp [wipeE, dN, oMod_, n0, md]
      rw [z, List.map_map]; rfl
    subst c1
    have g1 : (h2 ++ [AO.lst (((List.range n).map fun k => (k + t) % n).map dN)])[h2.length]? = some (.lst (((List.range n).map fun k => (k + t) % n).map dN)) := by simp
    unfold dC
    generalize ((List.range n).map fun k => (k + t) % n).map dN = rd at *
    generalize h2 ++ [AO.lst rd] = H5 at *
    generalize h2.length = r5 at *
    have lc' : lc__law_perm_1 [some (.ref a), some (.int (n : Int)), some (.int 1), some (.ref q), some (.int (t : Int)), none, none, none] h2 = .ok (.ref r5) H5 := lc
    simp only [dN]
    simp [lc', g1]
  have c1' : ¬ (ch : Int) = 1 := by omega
  have s5 : sIf (eOp oEq (eVar 2) (eC (.int 1))) (sRet (eCall cTuple (lCons lc__law_perm_1 lNil))) sPass [some (.ref a), some (dN n), some (dN ch), some (.ref q), some (dN t), none, none, none] h2 = .nx [some (.ref a), some (dN n), some (dN ch), some (.ref q), some (dN t), none, none, none] h2 := by
    simp [dN, c1, c1']
  by_cases c2 : ch = 2
  · obtain ⟨u, h3, w3, hu, A3, L3⟩ := takeA AA.bg (by omega) (s := n) (by omega) (by omega)
    have Hq3 : h3[q]? = some (.lst ((List.range n).map dN)) := A3.ev.get Hq2 qa qg
    have A4 := AA.step A3
    have P := (IsP.range n).swap ht hu
    rw [show (List.range n).getD u 0 = u by simp [hu], show (List.range n).getD t 0 = t by simp [ht]] at P
    refine fin (((List.range n).set t u).set u t) ((h3.set q (.lst (((List.range n).set t u).map dN))).set q (.lst ((((List.range n).set t u).set u t).map dN))) P ⟨((A4.bg.set qa qg qm).set qa qg qm).mono (by omega), ?_⟩ ?_
    · refine ⟨by have := A4.ev.le; simpa using this, fun i hi ha hg => ?_⟩
      have hqi : q ≠ i := by have := A1.ev.le; omega
      rw [List.getElem?_set_ne hqi, List.getElem?_set_ne hqi]
      exact A4.ev.eq i hi ha hg
    · unfold m__law_perm
      refine sqR s1 (sqR s2 (sqR s3 (sqR s4 (sqR s5 ?_))))
      have w3' : c__law_take [.ref a, dN n] h2 = .ok (dN u) h3 := w3
      have p1 : ∀ H, putO (some (.lst ((List.range n).map dN))) q (t : Nat) (dN u) H = some (H.set q (.lst (((List.range n).set t u).map dN))) := fun H => by rw [putO_nat (by simpa using ht), List.map_set]
      have p2 : ∀ H, putO (some (.lst (((List.range n).set t u).map dN))) q (u : Nat) (dN t) H = some (H.set q (.lst ((((List.range n).set t u).set u t).map dN))) := fun H => by rw [putO_nat (by simpa using hu)]; simp [List.map_set]
      have lq : q < h3.length := (List.getElem?_eq_some_iff.mp Hq3).1
      have g1 : ∀ o, (h3.set q o)[q]? = some o := fun o => List.getElem?_set_self lq
      have g2 : ∀ o o', ((h3.set q o).set q o')[q]? = some o' := fun o o' => List.getElem?_set_self (by simpa using lq)
      subst c2
      unfold dC
      generalize (((List.range n).set t u).set u t).map dN = d2 at *
      generalize ((List.range n).set t u).map dN = d1 at *
      generalize (List.range n).map dN = d0 at *
      simp only [dN] at w3' p1 p2 ⊢
      simp [w3', Hq3, p1, g1, p2, g2]
  have c2' : ¬ (ch : Int) = 2 := by omega
  -- drawn one after the other
  have pk := perm_pick (l := List.range n) (d := t) (by simpa using ht)
  rw [show (List.range n).getD t 0 = t by simp [ht]] at pk
  have lq : q < h2.length := (List.getElem?_eq_some_iff.mp Hq2).1
  obtain ⟨h3, hh3⟩ : ∃ h3, h3 = h2.set q (.lst (((List.range n).eraseIdx t).map dN)) := ⟨_, rfl⟩
  have l3 : h3.length = h2.length := by rw [hh3]; simp
  have la2 := A1.ev.le
  have lh : h.length ≤ q := by omega
  have A3 : Aft a g m (N + 2) h h3 := by
    rw [hh3]
    refine ⟨(AA.bg.set qa qg qm).mono (by omega), ⟨by have := AA.ev.le; simpa using this, fun i hi ha hg => ?_⟩⟩
    rw [List.getElem?_set_ne (by omega)]
    exact AA.ev.eq i hi ha hg
  have po := mPopAt_N (us := List.range n) (j := t) Hq2 (by simpa using ht) (by simp; omega)
  rw [show (List.range n).getD t 0 = t by simp [ht], ← hh3] at po
  obtain ⟨r7, hr7⟩ : ∃ r, r = h3.length := ⟨_, rfl⟩
  obtain ⟨e5, h5, w5, x5, row, pool, rfl, A5, q5, p5, pm, lr⟩ := loopM (k := 5) (φ := fun k => dN (1 + k)) (b := lb__law_perm_1)
    (fun i e h' => ∃ (x5 : Option D) (row pool : List Nat), e = [some (.ref a), some (dN n), some (dN ch), some (.ref q), some (dN t), x5, none, some (.ref r7)] ∧ Aft a g m (N + 2 + i) h h' ∧ h'[q]? = some (.lst (pool.map dN)) ∧ h'[r7]? = some (.lst (row.map dN)) ∧ (row ++ pool).Perm (List.range n) ∧ row.length = 1 + i)
    (List.range (n - 1)) (e := [some (.ref a), some (dN n), some (dN ch), some (.ref q), some (dN t), none, none, some (.ref r7)]) (h := h3 ++ [.lst ([t].map dN)])
    ⟨none, [t], (List.range n).eraseIdx t, rfl, ⟨A3.bg.app, A3.ev.trans (Ev.app _ _ _ _)⟩, app_get_l (by rw [hh3]; exact List.getElem?_set_self lq), by rw [hr7]; simp, pk, by simp⟩ (by
      rintro i k e h' hk ⟨x5, row, pool, rfl, A, hq', hr', pm, lr⟩
      have hi : i < n - 1 := by have := (List.getElem?_eq_some_iff.mp hk).1; simpa using this
      have ek : k = i := by rw [List.getElem?_range hi] at hk; exact (Option.some.inj hk).symm
      subst ek
      have lp : pool.length = n - (1 + k) := by
        have := pm.length_eq
        simp at this
        omega
      obtain ⟨d, h6, w6, hd, A6, L6⟩ := takeA A.bg (by omega) (s := n - (1 + k)) (by omega) (by omega)
      have rq : r7 ≠ q := by omega
      have ra : r7 ≠ a := by omega
      have rg_ : r7 ≠ g := by omega
      have rm : r7 ≠ m := by omega
      have hq6 := A6.ev.get hq' qa qg
      have hr6 := A6.ev.get hr' ra rg_
      have po := mPopAt_N (us := pool) (j := d) hq6 (by omega) (by omega)
      obtain ⟨h7, hh7⟩ : ∃ h7, h7 = h6.set q (.lst ((pool.eraseIdx d).map dN)) := ⟨_, rfl⟩
      rw [← hh7] at po
      have lq6 : q < h6.length := (List.getElem?_eq_some_iff.mp hq6).1
      have hr7' : h7[r7]? = some (.lst (row.map dN)) := by rw [hh7, List.getElem?_set_ne (Ne.symm rq)]; exact hr6
      have hq7 : h7[q]? = some (.lst ((pool.eraseIdx d).map dN)) := by rw [hh7]; exact List.getElem?_set_self lq6
      have lr7 : r7 < h7.length := (List.getElem?_eq_some_iff.mp hr7').1
      have ap : ∀ r v h, appO (some (.lst (row.map dN))) r v h = .ok .non (h.set r (.lst (row.map dN ++ [v]))) := fun r v h => appO_lst (by rw [List.length_map, sizeLine_eq]; omega)
      have pk := perm_pick (l := pool) (d := d) (by omega)
      refine ⟨_, h7.set r7 (.lst ((row ++ [pool.getD d 0]).map dN)), ?_, some (dN (1 + k)), row ++ [pool.getD d 0], pool.eraseIdx d, rfl, ?_, ?_, ?_, ?_, by simp; omega⟩
      · have sb : ((n : Int) - (1 + (k : Int))) = ((n - (1 + k) : Nat) : Int) := by omega
        have ty1 : tyOk h' "list" (.ref r7) = true := by simp [tyOk, hr']
        have ty2 : tyOk h' "list" (.ref q) = true := by simp [tyOk, hq']
        generalize pool.getD d 0 = v at *
        rw [List.map_append]
        generalize row.map dN = rd at *
        clear hh7
        simp only [dN] at po
        rw [← sb] at w6
        simp [lb__law_perm_1, dN, w6, po, ty1, ty2, hr', hq', hr7', ap]
      · refine ⟨?_, ?_⟩
        · have b6 := (A6.bg.set (o := .lst ((pool.eraseIdx d).map dN)) qa qg qm)
          rw [← hh7] at b6
          exact (b6.set ra rg_ rm).mono (by omega)
        · have e6 := A.ev.trans A6.ev
          refine ⟨by have := e6.le; rw [hh7]; simpa using this, fun i hi ha hg => ?_⟩
          rw [List.getElem?_set_ne (by omega), hh7, List.getElem?_set_ne (by omega)]
          exact e6.eq i hi ha hg
      · rw [List.getElem?_set_ne rq]; exact hq7
      · exact List.getElem?_set_self lr7
      · rw [List.append_assoc]
        exact ((List.Perm.append_left row pk)).trans pm)
  rw [List.length_range] at A5 lr
  have lpool : pool = [] := by
    have := pm.length_eq
    simp at this
    exact List.eq_nil_of_length_eq_zero (by omega)
  subst lpool
  rw [List.append_nil] at pm
  refine fin row h5 (isP_perm pm) ⟨A5.bg.mono (by omega), A5.ev⟩ ?_
  unfold m__law_perm
  refine sqR s1 (sqR s2 (sqR s3 (sqR s4 (sqR s5 ?_))))
  refine sqR (e1 := [some (.ref a), some (dN n), some (dN ch), some (.ref q), some (dN t), none, none, none]) (h1 := h2) (by simp [dN, c2, c2']) ?_
  have ty : tyOk h2 "list" (.ref q) = true := by simp [tyOk, Hq2]
  refine sqR (e1 := [some (.ref a), some (dN n), some (dN ch), some (.ref q), some (dN t), none, none, some (.ref r7)]) (h1 := h3 ++ [.lst ([t].map dN)]) (by
    simp only [dN] at po
    simp [dN, po, ty, Hq2, hr7]) ?_
  have sf := sFor_range2 (l := lCons (eC (.int 1)) (lCons (eVar 1) lNil)) (g := gVar 5) (b := lb__law_perm_1) (e := [some (.ref a), some (dN n), some (dN ch), some (.ref q), some (dN t), none, none, some (.ref r7)]) (h := h3 ++ [.lst ([t].map dN)]) (h1 := h3 ++ [.lst ([t].map dN)]) (i := 1) (j := n) (by simp [dN]) (by omega) (by omega)
  refine sqR (sf.trans w5) ?_
  simp [p5, dC]
end Law

set_option maxHeartbeats 1000000
/-! _law_alike of a value and itself -/
namespace Law
open PySem Rf L2
theorem blsOf_map : ∀ bs : List Bool, blsOf (bs.map D.bl) = some bs
  | [] => rfl
  | b :: bs => by
    rw [List.map_cons]
    unfold blsOf
    rw [blsOf_map bs]
    rfl
theorem cAll_bl {bs : List Bool} {r : Nat} {h : AH} (e : h[r]? = some (.lst (bs.map D.bl))) : cAll [.ref r] h = .ok (.bl (bs.all id)) h := by
  unfold cAll
  dsimp only
  unfold Rf.listOf
  dsimp only
  rw [e]
  dsimp only
  rw [blsOf_map]
/-- plain data at most k deep -/
def Al : Nat → D → Prop
  | _, .non => True
  | _, .bl _ => True
  | _, .int _ => True
  | _, .str x => PyData.strOk x = true
  | k + 1, .tup ds => ds.length ≤ 100000 ∧ ∀ d ∈ ds, Al k d
  | _, _ => False
theorem Al.eqB (b : Bool) (h : AH) : oEq (.bl b) (.bl b) h = .ok (.bl true) h := by
  simp [oEq, D.toP, PyData.eqv]
theorem Al.eqS {x : Str} (hx : PyData.strOk x = true) (h : AH) : oEq (.str x) (.str x) h = .ok (.bl true) h := by
  have e2 : (D.str x).toP h 20 = some (.str x) := if_pos hx
  unfold oEq
  rw [e2]
  simp [PyData.eqv]
theorem alike_self : ∀ (k j : Nat) (d : D) (h : AH), k ≤ j → Al k d → cr__law_alike (j + 1) [d, d] h = .ok (.bl true) h := by
  have leaf : ∀ (j : Nat) (d : D) (h : AH), (d = .non ∨ (∃ b, d = .bl b) ∨ (∃ i, d = .int i) ∨ ∃ x, d = .str x ∧ PyData.strOk x = true) → cr__law_alike (j + 1) [d, d] h = .ok (.bl true) h := fun j d h w => by
    have e : cr__law_alike (j + 1) [d, d] h = gc h (.ok (.bl true) h) := by
      unfold cr__law_alike fsem
      rcases w with rfl | ⟨b, rfl⟩ | ⟨i, rfl⟩ | ⟨x, rfl, hx⟩
      · simp [m__law_alike, D.isNon]
      · simp [m__law_alike, D.isNon, Al.eqB]
      · simp [m__law_alike, D.isNon]
      · simp [m__law_alike, D.isNon, Al.eqS hx]
    rw [e, gc_same rfl]
  intro k
  induction k with
  | zero =>
    intro j d h hj w
    refine leaf j d h ?_
    cases d with
    | non => exact .inl rfl
    | bl b => exact .inr (.inl ⟨b, rfl⟩)
    | int i => exact .inr (.inr (.inl ⟨i, rfl⟩))
    | str x => exact .inr (.inr (.inr ⟨x, rfl, w⟩))
    | _ => exact w.elim
  | succ k ih =>
    intro j d h hj w
    cases d with
    | tup ds =>
      obtain ⟨l, hd⟩ := w
      obtain ⟨j, rfl⟩ : ∃ j', j = j' + 1 := ⟨j - 1, by omega⟩
      have lc : lc__law_alike_1 (noX (cr__law_alike (j + 1))) [some (.tup ds), some (.tup ds), none] h = .ok (.ref h.length) (h ++ [.lst (ds.map fun _ => D.bl true)]) := by
        unfold lc__law_alike_1
        have z := eLc_map (φ := dN) (k := 2) (mi := iRange1 (lCons (eCall cLen (lCons (eVar 1) lNil)) lNil)) (te := eCall (argn 2 (noX (cr__law_alike (j + 1)))) (lCons (eOp oIx (eVar 0) (eVar 2)) (lCons (eOp oIx (eVar 1) (eVar 2)) lNil))) (vs := [2]) (e := [some (.tup ds), some (.tup ds), none]) (h := h) (h1 := h) (List.range ds.length) (fun _ => D.bl true) (iRange1_nat (n := ds.length) (by simp) (by omega)) (by rw [List.length_range, sizeLine_eq]; omega) fun i hi => by
            rw [List.mem_range] at hi
            have x1 : ∀ h, ixD ds (i : Int) h = .ok ds[i] h := fun h => ixD_some (List.getElem?_eq_getElem hi)
            have q := ih j ds[i] h (by omega) (hd _ (List.getElem_mem hi))
            generalize ds[i] = v at *
            simp [wipeE, dN, x1, q]
        rw [z]
        simp [List.map_const']
      have e : cr__law_alike (j + 1 + 1) [.tup ds, .tup ds] h = gc h (.ok (.bl true) (h ++ [.lst (ds.map fun _ => D.bl true)])) := by
        have al : ∀ H : AH, H[h.length]? = some (.lst (ds.map fun _ => D.bl true)) → cAll [.ref h.length] H = .ok (.bl true) H := fun H hH => by
          have e2 : (ds.map fun _ => D.bl true) = (ds.map fun _ => true).map D.bl := by rw [List.map_map]; rfl
          rw [e2] at hH
          rw [cAll_bl hH]
          simp
        rw [cr__law_alike]
        unfold fsem
        have al' := al (h ++ [.lst (ds.map fun _ => D.bl true)]) (by simp)
        generalize h ++ [AO.lst (ds.map fun _ => D.bl true)] = H2 at *
        generalize h.length = r at *
        simp [m__law_alike, lc, al']
      rw [e, gc_app rfl]
    | non => exact leaf j _ h (.inl rfl)
    | bl b => exact leaf j _ h (.inr (.inl ⟨b, rfl⟩))
    | int i => exact leaf j _ h (.inr (.inr (.inl ⟨i, rfl⟩)))
    | str x => exact leaf j _ h (.inr (.inr (.inr ⟨x, rfl, w⟩)))
    | _ => exact w.elim
theorem alike {k : Nat} {d : D} (hk : k ≤ 5) (w : Al k d) (h : AH) : c__law_alike [d, d] h = .ok (.bl true) h := alike_self k 5 d h hk w
theorem al_N {k x : Nat} : Al k (dN x) := by cases k <;> trivial
theorem al_I {k : Nat} {x : Int} : Al k (.int x) := by cases k <;> trivial
theorem al_row {k : Nat} {l : List Nat} (h : l.length ≤ 100000) : Al (k + 1) (dC l) := ⟨by simpa using h, fun d hd => by
  obtain ⟨x, _, rfl⟩ := List.mem_map.mp hd
  exact al_N⟩
theorem al_rows {k : Nat} {L : List (List Nat)} (h : L.length ≤ 100000) (h2 : ∀ l ∈ L, l.length ≤ 100000) : Al (k + 2) (.tup (L.map dC)) := ⟨by simpa using h, fun d hd => by
  obtain ⟨l, hl, rfl⟩ := List.mem_map.mp hd
  exact al_row (h2 l hl)⟩
end Law

set_option maxHeartbeats 1000000
/-! what is drawn -/
namespace Law
open PySem Rf L2
theorem takeI {h : AH} {a g m N : Nat} (B : Bg h a g m N) (hN : N ≤ 1000000000) {s : Int} (hs : 0 < s) (hs2 : s ≤ 1000000) :
    ∃ (d : Nat) (h' : AH), c__law_take [.ref a, .int s] h = .ok (.int d) h' ∧ (d : Int) < s ∧ Aft a g m (N + 1) h h' ∧ h'.length = h.length := by
  obtain ⟨d, h', w, hd, B', E, L⟩ := take_spec B hN hs hs2
  exact ⟨d, h', w, hd, ⟨B', E⟩, L⟩
theorem Aft.app {a g m N : Nat} {h h' : AH} (A : Aft a g m N h h') (L : AH) : Aft a g m N h (h' ++ L) := ⟨A.bg.app, A.ev.trans (Ev.app _ _ _ _)⟩
theorem Aft.mono {a g m N M : Nat} {h h' : AH} (A : Aft a g m N h h') (l : N ≤ M) : Aft a g m M h h' := ⟨A.bg.mono l, A.ev⟩
theorem gc_aft_list {a g m N i : Nat} {h h' : AH} {o : AO} (l : a < h.length ∧ g < h.length ∧ m < h.length) (x : Aft a g m N h h') (hi : h.length ≤ i) (e : h'[i]? = some o) (f : o.flat = true) :
    ∃ r h2, gc h (.ok (.ref i) h') = .ok (.ref r) h2 ∧ h2[r]? = some o ∧ h.length ≤ r ∧ Aft a g m N h h2 := by
  by_cases k : Keep h h'
  · have ll : (h'.take h.length).length = h.length := by rw [List.length_take]; have := x.ev.le; omega
    refine ⟨h.length, h'.take h.length ++ [o], gc_list k hi e f, by simp [ll], Nat.le_refl _, x.bg.ev fun i hi => ?_, ⟨by simp [ll], fun i hi ha hg => ?_⟩⟩
    · have hl : i < h.length := by rcases hi with rfl | rfl | rfl <;> omega
      rw [List.getElem?_append_left (by omega), List.getElem?_take_of_lt hl]
    · rw [List.getElem?_append_left (by omega), List.getElem?_take_of_lt hi]; exact x.ev.eq i hi ha hg
  · refine ⟨i, h', ?_, e, hi, x⟩
    unfold gc
    simp only [if_neg k]
theorem Aft.setN {a g m N q : Nat} {h h' : AH} {o : AO} (A : Aft a g m N h h') (l : a < h.length ∧ g < h.length ∧ m < h.length) (hq : h.length ≤ q) : Aft a g m N h (h'.set q o) :=
  ⟨A.bg.set (by omega) (by omega) (by omega), ⟨by have := A.ev.le; simpa using this, fun i hi ha hg => by
    rw [List.getElem?_set_ne (by omega)]; exact A.ev.eq i hi ha hg⟩⟩
theorem ixD_get {ds : List D} {i : Nat} (hi : i < ds.length) (h : AH) : ixD ds (i : Int) h = .ok ds[i] h := ixD_some (List.getElem?_eq_getElem hi)
theorem size_spec {h : AH} {a g m N : Nat} (B : Bg h a g m N) (hN : N + 10 ≤ 1000000000) :
    ∃ (n : Nat) (h' : AH), c__law_size [.ref a] h = .ok (dN n) h' ∧ Aft a g m (N + 2) h h' ∧ 1 ≤ n ∧ n ≤ 60 := by
  have fin : ∀ (d : Nat) (h1 : AH), m__law_size [some (.ref a), none] h = .rt (.int (1 + (d : Int))) h1 → Aft a g m (N + 2) h h1 → d < 60 →
      ∃ (n : Nat) (h' : AH), c__law_size [.ref a] h = .ok (dN n) h' ∧ Aft a g m (N + 2) h h' ∧ 1 ≤ n ∧ n ≤ 60 := fun d h1 e A b => by
    obtain ⟨h2, w, A2⟩ := gc_aft B.lt A (d := .int (1 + (d : Int))) rfl
    refine ⟨1 + d, h2, ?_, A2, by omega, by omega⟩
    show gc h (outS (m__law_size [some (.ref a), none] h)) = _
    rw [e]
    have : dN (1 + d) = .int (1 + (d : Int)) := by simp [dN]
    rw [this]; exact w
  obtain ⟨ch, h1, w1, hc, A1, L1⟩ := takeI B (by omega) (s := 6) (by omega) (by omega)
  by_cases c0 : (ch : Int) = 0
  · obtain ⟨d, h2, w2, hd, A2, L2⟩ := takeI A1.bg (by omega) (s := 24) (by omega) (by omega)
    refine fin d h2 ?_ (A1.step A2) (by omega)
    simp [m__law_size, w1, c0, w2]
  by_cases c1 : (ch : Int) = 1
  · obtain ⟨d, h2, w2, hd, A2, L2⟩ := takeI A1.bg (by omega) (s := 60) (by omega) (by omega)
    refine fin d h2 ?_ (A1.step A2) (by omega)
    simp [m__law_size, w1, c1, w2]
  obtain ⟨d, h2, w2, hd, A2, L2⟩ := takeI A1.bg (by omega) (s := 7) (by omega) (by omega)
  refine fin d h2 ?_ (A1.step A2) (by omega)
  have c0' : ¬ ch = 0 := by omega
  have c1' : ¬ ch = 1 := by omega
  simp [m__law_size, w1, c0, c0', c1, c1', w2]
end Law

set_option maxHeartbeats 1000000
namespace Law
open PySem Rf L2
theorem cycle_at_spec {f : List Nat} {n x : Nat} (P : IsP n f) (hx : x < n) (hn : n ≤ 1000) {h : AH} :
    c_cycle_at [dC f, dN x] h = .ok (.ref h.length) (h ++ [.lst ((cyc f x).map dN)]) := by
  have lf := P.len
  obtain ⟨e', h', w, rfl, rfl⟩ := while_ix (c := wc_cycle_at_1) (b := lb_cycle_at_1)
    (fun m e h' => ∃ c, e = [some (dC f), some (dN x), some (.ref h.length)] ∧ h' = h ++ [.lst (c.map dN)] ∧ Pa f x c ∧ m = n - c.length)
    (fun e h' => e = [some (dC f), some (dN x), some (.ref h.length)] ∧ h' = h ++ [.lst ((cyc f x).map dN)])
    (by
      rintro m e h' ⟨c, rfl, rfl, A, rfl⟩
      have p := A.pos
      have l := A.len P hx
      have x1 := fun h => ixD_last_N p h
      have ll := A.lt P hx _ (getD_mem (d := 0) (show c.length - 1 < c.length by omega))
      by_cases q : f.getD (c.getD (c.length - 1) 0) 0 = x
      · rw [← cyc_eq P hx ⟨A, q⟩]
        refine .inl ⟨_, ?_, rfl, rfl⟩
        rw [cyc_eq P hx ⟨A, q⟩]
        generalize c.getD (c.length - 1) 0 = u at x1 ll q
        have x2 : ∀ h, ixD (f.map dN) (u : Int) h = .ok (dN x) h := fun h => by rw [← q]; exact ixD_N (by omega)
        simp only [dN] at x1 x2
        simp [wc_cycle_at_1, dC, x1, x2]
      · refine .inr ⟨h ++ [.lst (c.map dN)], ?_, ?_⟩
        · generalize c.getD (c.length - 1) 0 = u at x1 ll q
          have x2 : ∀ h, ixD (f.map dN) (u : Int) h = .ok (dN (f.getD u 0)) h := fun h => ixD_N (by omega)
          generalize f.getD u 0 = v at x2 q
          simp only [dN] at x1 x2
          simp [wc_cycle_at_1, dC, x1, x2, q]
        · have B := A.push P hx q
          have lB := B.len P hx
          rw [List.length_append, List.length_singleton] at lB
          refine ⟨[some (dC f), some (dN x), some (.ref h.length)], h ++ [.lst ((c ++ [f.getD (c.getD (c.length - 1) 0) 0]).map dN)], ?_, n - (c.length + 1), by omega, c ++ [f.getD (c.getD (c.length - 1) 0) 0], rfl, rfl, B, by simp⟩
          have ap : ∀ r v h, appO (some (.lst (c.map dN))) r v h = .ok .non (h.set r (.lst (c.map dN ++ [v]))) := fun r v h => appO_lst (by rw [List.length_map, sizeLine_eq]; omega)
          generalize c.getD (c.length - 1) 0 = u at x1 ll q
          have x2 : ∀ h, ixD (f.map dN) (u : Int) h = .ok (dN (f.getD u 0)) h := fun h => ixD_N (by omega)
          generalize f.getD u 0 = v at x2 q
          simp only [dN] at x1 x2
          simp [lb_cycle_at_1, dC, x1, x2, ap])
    (n - 1) [some (dC f), some (dN x), some (.ref h.length)] (h ++ [.lst [dN x]])
    ⟨[x], rfl, rfl, Pa.one, rfl⟩
  have e : c_cycle_at [dC f, dN x] h = gc h (.ok (.ref (h.length + 0)) (h ++ [.lst ((cyc f x).map dN)])) := by
    unfold c_cycle_at fsem
    simp [m_cycle_at, w]
  rw [e, gc_new (i := 0) rfl (by simp)]
/-- the cycles told, from the heads below i -/
noncomputable def cyRows (b : Bool) (f : List Nat) (n i : Nat) : List (List Nat) := ((heads [f] n i).map (cyc f)).filter fun c => b || decide (1 < c.length)
theorem heads_succ {ps : List (List Nat)} {n k : Nat} : (Hd ps k → heads ps n (k + 1) = heads ps n k ++ [k]) ∧ (¬ Hd ps k → heads ps n (k + 1) = heads ps n k) := by
  unfold heads
  rw [List.range_succ, List.filter_append]
  constructor
  · intro h
    rw [List.filter_cons, if_pos (by exact @decide_eq_true _ (Classical.propDecidable _) h)]; rfl
  · intro h
    rw [List.filter_cons, if_neg (by rw [@decide_eq_false _ (Classical.propDecidable _) h]; exact Bool.false_ne_true)]; simp
theorem cyRows_le {b : Bool} {f : List Nat} {n i : Nat} : (cyRows b f n i).length ≤ i := by
  unfold cyRows heads
  refine Nat.le_trans (List.length_filter_le _ _) ?_
  rw [List.length_map]
  exact Nat.le_trans (List.length_filter_le _ _) (by simp)
def CO (h : AH) (n : Nat) (rows : List (List Nat)) (L : List Nat) (g : AH) : AH := h ++ (.lst (rows.map dC) :: .lst (kn n L) :: g)
section
variable {h g : AH} {n : Nat} {L : List Nat} {rows : List (List Nat)}
theorem CO_0 : (CO h n rows L g)[h.length]? = some (.lst (rows.map dC)) := by unfold CO; rw [app_get0]; rfl
theorem CO_1 : (CO h n rows L g)[h.length + 1]? = some (.lst (kn n L)) := by unfold CO; rw [app_get]; rfl
theorem CO_g {i : Nat} : (CO h n rows L g)[h.length + 2 + i]? = g[i]? := by unfold CO; rw [Nat.add_assoc, app_get, show 2 + i = i + 1 + 1 by omega]; simp
theorem CO_len : (CO h n rows L g).length = h.length + 2 + g.length := by unfold CO; simp; omega
theorem CO_app (x : AH) : CO h n rows L g ++ x = CO h n rows L (g ++ x) := by unfold CO; simp
theorem CO_s0 (c : List Nat) : (CO h n rows L g).set h.length (.lst (rows.map dC ++ [dC c])) = CO h n (rows ++ [c]) L g := by
  have := app_set (h := h) (g := (.lst (rows.map dC) :: .lst (kn n L) :: g : AH)) (i := 0) (o := .lst (rows.map dC ++ [dC c])) rfl
  unfold CO
  rw [Nat.add_zero] at this
  rw [this]; simp
theorem CO_s1 (M : List Nat) : (CO h n rows L g).set (h.length + 1) (.lst (kn n M)) = CO h n rows M g := by unfold CO; rw [app_set rfl]; rfl
end
theorem lc_seen {f : List Nat} {n : Nat} (P : IsP n f) (hn : n ≤ 1000) {e1 e2 e3 e4 e5 e6 e7 : Option D} {h : AH} : lc_cycles_of_1 [some (dC f), e1, e2, e3, e4, e5, e6, e7] h = .ok (.ref h.length) (h ++ [.lst (kn n [])]) := by
  have lf := P.len
  unfold lc_cycles_of_1
  rw [eLc_map (φ := dN) f (fun _ => D.bl false) (h1 := h) (iVal_tup (by simp [dC])) (by rw [sizeLine_eq]; omega)]
  · rw [List.map_const', lf, kn_nil]
  · intro x _; simp [wipeE]
theorem cycles_of_spec {f : List Nat} {n : Nat} (P : IsP n f) (hn : n ≤ 1000) (b : Bool) {h : AH} :
    c_cycles_of [dC f, .bl b] h = .ok (.tup ((cyRows b f n n).map dC)) h := by
  have lf := P.len
  obtain ⟨e', h', w, x4, x5, x6, x7, g, rfl, rfl⟩ := loopN (k := 5) (b := lb_cycles_of_1)
    (fun i e h' => ∃ x4 x5 x6 x7 g, e = [some (dC f), some (.bl b), some (.ref h.length), some (.ref (h.length + 1)), x4, x5, x6, x7] ∧ h' = CO h n (cyRows b f n i) (knO [f] n i) g)
    n (e := [some (dC f), some (.bl b), some (.ref h.length), some (.ref (h.length + 1)), none, none, none, none]) (h := CO h n [] [] [])
    ⟨none, none, none, none, [], rfl, by
      have e1 : knO [f] n 0 = [] := by unfold knO; rw [List.filter_eq_nil_iff]; simp
      rw [e1]; rfl⟩ (by
      rintro i e h' hi ⟨x4, x5, x6, x7, g, rfl, rfl⟩
      have k1 := kn_at (L := knO [f] n i) hi
      by_cases q : i ∈ knO [f] n i
      · obtain ⟨z, hz, r⟩ := (mem_knO.mp q).2
        have e1 : cyRows b f n (i + 1) = cyRows b f n i := by unfold cyRows; rw [heads_succ.2 fun H => H z hz r]
        have e2 : kn n (knO [f] n (i + 1)) = kn n (knO [f] n i) := kn_ext fun x hx => by
          rw [mem_knO, mem_knO]
          constructor
          · rintro ⟨_, z', hz', r'⟩
            by_cases e : z' = i
            · subst e; exact ⟨hx, z, hz, r.trans r'⟩
            · exact ⟨hx, z', by omega, r'⟩
          · rintro ⟨_, z', hz', r'⟩; exact ⟨hx, z', by omega, r'⟩
        refine ⟨_, CO h n (cyRows b f n i) (knO [f] n i) g, ?_, x4, some (dN i), x6, x7, g, rfl, by rw [e1]; unfold CO; rw [e2]⟩
        rw [decide_eq_true q] at k1
        simp [lb_cycles_of_1, CO_1, k1]
      · have hd : Hd [f] i := fun z hz r => q (mem_knO.mpr ⟨hi, z, hz, r⟩)
        rw [decide_eq_false q] at k1
        have C := cyc_cy P hi
        have lc := C.toPa.lt P hi
        have ca := cycle_at_spec P hi hn (h := CO h n (cyRows b f n i) (knO [f] n i) g)
        rw [CO_app, CO_len] at ca
        obtain ⟨e', h', w, x7, rfl, rfl⟩ := liveL_inv (g := gVar 7) (b := lb_cycles_of_2) (r := h.length + 2 + g.length) (ds := (cyc f i).map dN)
          (fun j e h' => ∃ x7, e = [some (dC f), some (.bl b), some (.ref h.length), some (.ref (h.length + 1)), x4, some (dN i), some (.ref (h.length + 2 + g.length)), x7] ∧ h' = CO h n (cyRows b f n i) (knO [f] n i ++ (cyc f i).take j) (g ++ [.lst ((cyc f i).map dN)]))
          (e := [some (dC f), some (.bl b), some (.ref h.length), some (.ref (h.length + 1)), x4, some (dN i), some (.ref (h.length + 2 + g.length)), x7]) (h := CO h n (cyRows b f n i) (knO [f] n i) (g ++ [.lst ((cyc f i).map dN)]))
          (by rintro j e h' ⟨x7, rfl, rfl⟩; rw [CO_g]; simp)
          ⟨x7, rfl, by rw [List.take_zero, List.append_nil]⟩ (by
            rintro j d e h' hd' ⟨x7, rfl, rfl⟩
            have hj : j < (cyc f i).length := by have := (List.getElem?_eq_some_iff.mp hd').1; simpa using this
            obtain ⟨y, ey⟩ : ∃ y, y = (cyc f i).getD j 0 := ⟨_, rfl⟩
            obtain rfl : dN y = d := by
              rw [List.getElem?_map, getD_some (a := 0) hj, ← ey] at hd'
              exact Option.some.inj hd'
            have hy : y < n := lc y (by rw [ey]; exact getD_mem hj)
            have tk : (cyc f i).take (j + 1) = (cyc f i).take j ++ [y] := by rw [List.take_add_one, getD_some (a := 0) hj, ← ey]; rfl
            refine ⟨_, _, ?_, some (dN y), rfl, rfl⟩
            rw [tk, ← List.append_assoc]
            simp [lb_cycles_of_2, CO_1, kn_put hy, CO_s1, -List.append_assoc])
        rw [List.length_map, List.take_length] at w
        have e2 : kn n (knO [f] n (i + 1)) = kn n (knO [f] n i ++ cyc f i) := kn_ext fun x hx => by
          rw [List.mem_append, mem_knO, mem_knO, C.mem]
          constructor
          · rintro ⟨_, z', hz', r'⟩
            by_cases e : z' = i
            · subst e; exact .inr r'
            · exact .inl ⟨hx, z', by omega, r'⟩
          · rintro (⟨_, z', hz', r'⟩ | r)
            · exact ⟨hx, z', by omega, r'⟩
            · exact ⟨hx, i, by omega, r⟩
        have g1 : (CO h n (cyRows b f n i) (knO [f] n i) (g ++ [AO.lst ((cyc f i).map dN)]))[h.length + 2 + g.length]? = some (.lst ((cyc f i).map dN)) := by rw [CO_g]; simp
        have g2 : (CO h n (cyRows b f n i) (knO [f] n i ++ cyc f i) (g ++ [AO.lst ((cyc f i).map dN)]))[h.length + 2 + g.length]? = some (.lst ((cyc f i).map dN)) := by rw [CO_g]; simp
        have g0 : (CO h n (cyRows b f n i) (knO [f] n i ++ cyc f i) (g ++ [AO.lst ((cyc f i).map dN)]))[h.length]? = some (.lst ((cyRows b f n i).map dC)) := CO_0
        have gk : (CO h n (cyRows b f n i) (knO [f] n i) g)[h.length + 1]? = some (.lst (kn n (knO [f] n i))) := CO_1
        have ol := cyRows_le (b := b) (f := f) (n := n) (i := i)
        have ap : ∀ r v h, appO (some (.lst ((cyRows b f n i).map dC))) r v h = .ok .non (h.set r (.lst ((cyRows b f n i).map dC ++ [v]))) := fun r v h => appO_lst (by rw [List.length_map, sizeLine_eq]; omega)
        have s0 := CO_s0 (h := h) (n := n) (rows := cyRows b f n i) (L := knO [f] n i ++ cyc f i) (g := g ++ [AO.lst ((cyc f i).map dN)]) (cyc f i)
        by_cases q2 : (b || decide (1 < (cyc f i).length)) = true
        · have e1 : cyRows b f n (i + 1) = cyRows b f n i ++ [cyc f i] := by
            unfold cyRows
            rw [heads_succ.1 hd, List.map_append, List.filter_append]
            congr 1
            rw [List.map_cons, List.map_nil, List.filter_cons, if_pos q2]; rfl
          refine ⟨[some (dC f), some (.bl b), some (.ref h.length), some (.ref (h.length + 1)), x4, some (dN i), some (.ref (h.length + 2 + g.length)), x7], CO h n (cyRows b f n (i + 1)) (knO [f] n i ++ cyc f i) (g ++ [.lst ((cyc f i).map dN)]), ?_, x4, some (dN i), some (.ref (h.length + 2 + g.length)), x7, g ++ [.lst ((cyc f i).map dN)], rfl, by unfold CO; rw [e2]⟩
          rw [e1, ← s0]
          have lcc : ((cyc f i).map dN).length = (cyc f i).length := by simp
          generalize CO h n (cyRows b f n i) (knO [f] n i ++ cyc f i) (g ++ [AO.lst ((cyc f i).map dN)]) = H2 at *
          generalize CO h n (cyRows b f n i) (knO [f] n i) (g ++ [AO.lst ((cyc f i).map dN)]) = H1 at *
          generalize CO h n (cyRows b f n i) (knO [f] n i) g = H0 at *
          simp only [dC] at w ca ap ⊢
          cases b with
          | true => simp [lb_cycles_of_1, gk, k1, ca, g1, w, g2, g0, ap]
          | false =>
            have q3 : 1 < (cyc f i).length := by simpa using q2
            have q4 : (1 : Int) < ((cyc f i).length : Int) := by omega
            simp [lb_cycles_of_1, gk, k1, ca, g1, w, g2, g0, ap, q3, q4]
        · have e1 : cyRows b f n (i + 1) = cyRows b f n i := by
            unfold cyRows
            rw [heads_succ.1 hd, List.map_append, List.filter_append, List.map_cons, List.map_nil, List.filter_cons, if_neg q2]; simp
          refine ⟨[some (dC f), some (.bl b), some (.ref h.length), some (.ref (h.length + 1)), x4, some (dN i), some (.ref (h.length + 2 + g.length)), x7], CO h n (cyRows b f n i) (knO [f] n i ++ cyc f i) (g ++ [.lst ((cyc f i).map dN)]), ?_, x4, some (dN i), some (.ref (h.length + 2 + g.length)), x7, g ++ [.lst ((cyc f i).map dN)], rfl, by rw [e1]; unfold CO; rw [e2]⟩
          generalize CO h n (cyRows b f n i) (knO [f] n i ++ cyc f i) (g ++ [AO.lst ((cyc f i).map dN)]) = H2 at *
          generalize CO h n (cyRows b f n i) (knO [f] n i) (g ++ [AO.lst ((cyc f i).map dN)]) = H1 at *
          generalize CO h n (cyRows b f n i) (knO [f] n i) g = H0 at *
          simp only [dC] at w ca ⊢
          cases b with
          | true => simp at q2
          | false =>
            have q3 : ¬ 1 < (cyc f i).length := by simpa using q2
            have q4 : ¬ (1 : Int) < ((cyc f i).length : Int) := by omega
            simp [lb_cycles_of_1, gk, k1, ca, g1, w, g2, g0, q3, q4])
  have r1 : RgB (n : Int) := rgB_nat (by omega)
  have sn := fun e1 e2 e3 e4 e5 e6 e7 h => lc_seen P hn (e1 := e1) (e2 := e2) (e3 := e3) (e4 := e4) (e5 := e5) (e6 := e6) (e7 := e7) (h := h)
  have e : c_cycles_of [dC f, .bl b] h = gc h (.ok (.tup ((cyRows b f n n).map dC)) (CO h n (cyRows b f n n) (knO [f] n n) g)) := by
    unfold c_cycles_of fsem
    have w0 : CO h n [] [] [] = h ++ [.lst [], .lst (kn n [])] := rfl
    rw [w0] at w
    have c0 := CO_0 (h := h) (n := n) (rows := cyRows b f n n) (L := knO [f] n n) (g := g)
    generalize CO h n (cyRows b f n n) (knO [f] n n) g = H at *
    simp only [dC] at w sn ⊢
    simp [m_cycles_of, sn, lf, r1, rg_zero, w, c0]
  rw [e]
  unfold CO
  rw [gc_app (by simp; exact pures_map fun c _ => by simp [dC])]
end Law

set_option maxHeartbeats 1000000
namespace Law
open PySem Rf L2
theorem cyRows_true {f : List Nat} {n i : Nat} : cyRows true f n i = (heads [f] n i).map (cyc f) := by
  unfold cyRows
  rw [List.filter_eq_self]
  intro c _; rfl
theorem cyRows_lens {f : List Nat} {n : Nat} (P : IsP n f) : (cyRows true f n n).map List.length = lens f n := by
  rw [cyRows_true, List.map_map]
  unfold lens
  apply List.map_congr_left
  intro x hx
  have hx := (mem_heads.mp hx).1
  exact (cyc_cy P hx).len P hx
theorem down_eq {a b : List Nat} (p : a.Perm b) (u : a.Pairwise (· ≥ ·)) (v : b.Pairwise (· ≥ ·)) : a = b :=
  List.Perm.eq_of_pairwise (le := (· ≥ ·)) (fun _ _ _ _ h1 h2 => Nat.le_antisymm h2 h1) u v p
theorem cSortedR_N {ks : List Nat} {r : Nat} {h : AH} (hr : h[r]? = some (.lst (ks.map dN))) : ∃ L : List Nat, cSortedR [.ref r] [.bl true] h = .ok (.ref h.length) (h ++ [.lst (L.map dN)]) ∧ L.Perm ks ∧ L.Pairwise (· ≥ ·) := by
  obtain ⟨L, p, u, e⟩ := natSort ks
  refine ⟨L.reverse, ?_, (List.reverse_perm L).trans p, ?_⟩
  · unfold cSortedR
    dsimp only
    rw [hr]
    dsimp only
    rw [dN_ints, intsOf_map]
    dsimp only
    rw [if_pos rfl, List.map_reverse, e, List.map_reverse]
  · rw [List.pairwise_reverse]
    exact u
theorem shape_spec {f : List Nat} {n : Nat} (P : IsP n f) (hn : n ≤ 1000) {h : AH} : ∃ L : List Nat, (∀ h, c_shape_of [dC f] h = .ok (dC L) h) ∧ L.Perm (lens f n) ∧ L.Pairwise (· ≥ ·) := by
  obtain ⟨L, _, p, u⟩ := cSortedR_N (ks := lens f n) (r := 0) (h := [.lst ((lens f n).map dN)]) rfl
  refine ⟨L, fun h => ?_, p, u⟩
  have co := cycles_of_spec P hn true (h := h)
  have rl := cyRows_le (b := true) (f := f) (n := n) (i := n)
  have lc : lc_shape_of_1 [some (dC f), none] h = .ok (.ref h.length) (h ++ [.lst ((lens f n).map dN)]) := by
    unfold lc_shape_of_1
    rw [eLc_map (φ := dC) (cyRows true f n n) (fun c => dN c.length) (h1 := h) (iVal_tup (by simp [permK, co])) (by rw [sizeLine_eq]; omega)]
    · rw [← cyRows_lens P, List.map_map]; rfl
    · intro c _
      simp [wipeE, dC]
  obtain ⟨L', e1, p', u'⟩ := cSortedR_N (ks := lens f n) (r := h.length) (h := h ++ [.lst ((lens f n).map dN)]) (by simp)
  obtain rfl : L' = L := down_eq (p'.trans p.symm) u' u
  have e : c_shape_of [dC f] h = gc h (.ok (dC L') (h ++ [.lst ((lens f n).map dN), .lst (L'.map dN)])) := by
    unfold c_shape_of fsem
    have z : h ++ [.lst ((lens f n).map dN), .lst (L'.map dN)] = (h ++ [AO.lst ((lens f n).map dN)]) ++ [AO.lst (L'.map dN)] := by simp
    rw [z]
    have gl : ((h ++ [AO.lst ((lens f n).map dN)]) ++ [AO.lst (L'.map dN)])[(h ++ [AO.lst ((lens f n).map dN)]).length]? = some (.lst (L'.map dN)) := getLast_app
    generalize h ++ [AO.lst ((lens f n).map dN)] = H at *
    simp only [dC] at lc ⊢
    simp [m_shape_of, lc, eCallBK, e1, -getLast_app, gl]
  rw [e, gc_app (by simp [dC])]
end Law

set_option maxHeartbeats 1000000
/-! lists of lists on the heap; the law's laps -/
namespace Law
open PySem Rf L2
/-- a list of lists, all of them behind b -/
structure RA (b : Nat) (H : AH) (r : Nat) (rs : List Nat) (L : List (List D)) : Prop where
  rf : H[r]? = some (.lst (rs.map D.ref))
  br : b ≤ r
  bs : ∀ x ∈ rs, b ≤ x
  at_ : rs.map (fun x => H[x]?) = L.map (fun l => some (.lst l))
  nr : ∀ x ∈ rs, x ≠ r
section
variable {b r : Nat} {H H' : AH} {rs : List Nat} {L : List (List D)}
theorem RA.len (A : RA b H r rs L) : rs.length = L.length := by simpa using congrArg List.length A.at_
theorem RA.get (A : RA b H r rs L) {i : Nat} (hi : i < L.length) : ∃ x, rs[i]? = some x ∧ b ≤ x ∧ H[x]? = some (.lst (L.getD i [])) := by
  have hr : i < rs.length := by rw [A.len]; exact hi
  refine ⟨rs[i], List.getElem?_eq_getElem hr, A.bs _ (List.getElem_mem hr), ?_⟩
  have := congrArg (fun l => l[i]?) A.at_
  simp only [List.getElem?_map, List.getElem?_eq_getElem hr, List.getElem?_eq_getElem hi, Option.map_some] at this
  rw [Option.some.inj this, List.getD_eq_getElem?_getD, List.getElem?_eq_getElem hi]; rfl
theorem RA.mono (A : RA b H r rs L) (e : ∀ (i : Nat) (o : AO), b ≤ i → H[i]? = some o → H'[i]? = some o) : RA b H' r rs L := by
  refine ⟨e _ _ A.br A.rf, A.br, A.bs, ?_, A.nr⟩
  rw [← A.at_]
  apply List.map_congr_left
  intro x hx
  obtain ⟨i, hi, rfl⟩ := List.mem_iff_getElem.mp hx
  obtain ⟨y, e1, e2, e3⟩ := A.get (i := i) (by rw [← A.len]; exact hi)
  rw [List.getElem?_eq_getElem hi] at e1
  rw [Option.some.inj e1, e3, e _ _ e2 e3]
theorem RA.app (A : RA b H r rs L) (g : AH) : RA b (H ++ g) r rs L := A.mono fun i o _ e => app_get_l e
theorem RA.ev {a g : Nat} (A : RA b H r rs L) (E : Ev a g H H') (ha : a < b) (hg : g < b) : RA b H' r rs L := A.mono fun i o hi e => E.get e (by omega) (by omega)
theorem RA.le {c : Nat} (A : RA b H r rs L) (h : c ≤ b) : RA c H r rs L := ⟨A.rf, Nat.le_trans h A.br, fun x hx => Nat.le_trans h (A.bs x hx), A.at_, A.nr⟩
theorem RA.new (b : Nat) (H : AH) (h : b ≤ H.length) : RA b (H ++ [.lst []]) H.length [] [] := ⟨by simp, h, by simp, rfl, by simp⟩
theorem RA.set {q : Nat} {o : AO} (A : RA b H r rs L) (h1 : r ≠ q) (h2 : ∀ x ∈ rs, x ≠ q) : RA b (H.set q o) r rs L := by
  refine ⟨by rw [List.getElem?_set_ne (Ne.symm h1)]; exact A.rf, A.br, A.bs, ?_, A.nr⟩
  rw [← A.at_]
  apply List.map_congr_left
  intro x hx
  rw [List.getElem?_set_ne (Ne.symm (h2 x hx))]
theorem RA.push {x : Nat} {l : List D} (A : RA b H r rs L) (hx : H[x]? = some (.lst l)) (bx : b ≤ x) (nx : x ≠ r) : RA b (H.set r (.lst (rs.map D.ref ++ [.ref x]))) r (rs ++ [x]) (L ++ [l]) := by
  have rl := (List.getElem?_eq_some_iff.mp A.rf).1
  refine ⟨by rw [List.getElem?_set_self rl]; simp, A.br, fun y hy => ?_, ?_, fun y hy => ?_⟩
  · rcases List.mem_append.mp hy with z | z
    · exact A.bs y z
    · rw [List.mem_singleton] at z; subst z; exact bx
  · rw [List.map_append, List.map_append, ← A.at_]
    congr 1
    · apply List.map_congr_left
      intro y hy
      rw [List.getElem?_set_ne (Ne.symm (A.nr y hy))]
    · simp only [List.map_cons, List.map_nil]
      rw [List.getElem?_set_ne (Ne.symm nx), hx]
  · rcases List.mem_append.mp hy with z | z
    · exact A.nr y z
    · rw [List.mem_singleton] at z; subst z; exact nx
theorem RA.lt (A : RA b H r rs L) : r < H.length ∧ ∀ x ∈ rs, x < H.length := by
  refine ⟨(List.getElem?_eq_some_iff.mp A.rf).1, fun x hx => ?_⟩
  obtain ⟨i, hi, rfl⟩ := List.mem_iff_getElem.mp hx
  obtain ⟨y, e1, e2, e3⟩ := A.get (i := i) (by rw [← A.len]; exact hi)
  rw [List.getElem?_eq_getElem hi] at e1
  rw [Option.some.inj e1]
  exact (List.getElem?_eq_some_iff.mp e3).1
end
theorem truth_lst {r : Nat} {ds : List D} {h : AH} (e : h[r]? = some (.lst ds)) : oTruth (.ref r) h = .ok (.bl (!ds.isEmpty)) h := by
  unfold oTruth
  dsimp only
  rw [e]
theorem app_set_ex {h g : AH} {i : Nat} {o : AO} (hi : h.length ≤ i) : ∃ g', (h ++ g).set i o = h ++ g' := ⟨g.set (i - h.length) o, by rw [List.set_append_right _ _ hi]⟩
noncomputable def laps (f : List Nat) (n : Nat) : List (List Nat) := (heads [f] n n).map (cyc f)
noncomputable def lapsI (f : List Nat) (n i : Nat) : List (List Nat) := (heads [f] n i).map (cyc f)
section
variable {n : Nat} {f : List Nat}
/-- one pass of the inner loop -/
theorem lap_step {q x : Nat} {S K : List Nat} {e1 : Option D} {s3 x6 : Option D} {h : AH} (P : IsP n f) (hx : x < n) (hq : q < h.length) (ns : x ∉ S) (kl : K.length ≤ 1000) :
    lb__law_laps_2 [some (dC f), e1, some (.ref q), s3, some (.ref h.length), some (.int x), x6] (h.set q (.lst (kn n S)) ++ [.lst (K.map dN)]) =
      .nx [some (dC f), e1, some (.ref q), s3, some (.ref h.length), some (.int (f.getD x 0 : Nat)), x6] (h.set q (.lst (kn n (S ++ [x]))) ++ [.lst ((K ++ [x]).map dN)]) := by
  have lf := P.len
  have hl : (h.set q (.lst (kn n S))).length = h.length := by simp
  have G1 : (h.set q (.lst (kn n S)) ++ [AO.lst (K.map dN)])[q]? = some (.lst (kn n S)) := by
    rw [List.getElem?_append_left (by rw [hl]; exact hq), List.getElem?_set_self hq]
  have k1 := kn_at (L := S) hx
  rw [decide_eq_false ns] at k1
  have kp : ∀ H, putO (some (.lst (kn n S))) q (x : Int) (.bl true) H = some (H.set q (.lst (kn n (S ++ [x])))) := fun H => kn_put hx
  have S1 : (h.set q (.lst (kn n S)) ++ [AO.lst (K.map dN)]).set q (.lst (kn n (S ++ [x]))) = h.set q (.lst (kn n (S ++ [x]))) ++ [.lst (K.map dN)] := by
    rw [List.set_append_left _ _ (by rw [hl]; exact hq), List.set_set]
  have hl2 : (h.set q (.lst (kn n (S ++ [x])))).length = h.length := by simp
  have G2 : (h.set q (.lst (kn n (S ++ [x]))) ++ [AO.lst (K.map dN)])[h.length]? = some (.lst (K.map dN)) := by
    rw [List.getElem?_append_right (by omega), hl2]; simp
  have ap : ∀ v H, appO (some (.lst (K.map dN))) h.length v H = .ok .non (H.set h.length (.lst (K.map dN ++ [v]))) := fun v H => appO_lst (by rw [List.length_map, sizeLine_eq]; omega)
  have S2 : (h.set q (.lst (kn n (S ++ [x]))) ++ [AO.lst (K.map dN)]).set h.length (.lst (K.map dN ++ [.int x])) = h.set q (.lst (kn n (S ++ [x]))) ++ [.lst ((K ++ [x]).map dN)] := by
    have := app_set (h := h.set q (.lst (kn n (S ++ [x])))) (g := [AO.lst (K.map dN)]) (i := 0) (o := .lst (K.map dN ++ [.int x])) hl2
    rw [Nat.add_zero] at this
    rw [this]; simp [dN]
  have ix : ∀ H, ixD (f.map dN) (x : Int) H = .ok (dN (f.getD x 0)) H := fun H => ixD_N (by omega)
  generalize f.getD x 0 = y at *
  unfold dC
  generalize f.map dN = fd at *
  generalize h.set q (.lst (kn n S)) ++ [AO.lst (K.map dN)] = H1 at *
  generalize h.set q (.lst (kn n (S ++ [x]))) ++ [AO.lst (K.map dN)] = H2 at *
  generalize h.set q (.lst (kn n (S ++ [x]))) ++ [AO.lst ((K ++ [x]).map dN)] = H3 at *
  have t2 : tyOk H2 "list" (.ref h.length) = true := by simp [tyOk, G2]
  simp only [dN] at ix
  simp [lb__law_laps_2, G1, k1, kp, S1, t2, G2, ap, S2, ix]
/-- the inner loop stops at a point that was met -/
theorem lap_stop {q x : Nat} {S : List Nat} {e1 s3 s4 x6 : Option D} {H : AH} (hx : x < n) (G : H[q]? = some (.lst (kn n S))) (ms : x ∈ S) :
    lb__law_laps_2 [some (dC f), e1, some (.ref q), s3, s4, some (.int x), x6] H = .bk [some (dC f), e1, some (.ref q), s3, s4, some (.int x), x6] H := by
  have k1 := kn_at (L := S) hx
  rw [decide_eq_true ms] at k1
  simp [lb__law_laps_2, G, k1]
end
end Law

set_option maxHeartbeats 1000000
/-! the law's laps -/
namespace Law
open PySem Rf L2
section
variable {n : Nat} {f : List Nat}
theorem lap_run {q i : Nat} {S : List Nat} {e1 s3 x6 : Option D} {h : AH} (P : IsP n f) (n2 : n ≤ 1000) (hi : i < n) (hq : q < h.length) (ns : ∀ x ∈ cyc f i, x ∉ S) :
    ∃ y6 : Option D, sLoop (gVar 6) lb__law_laps_2 ((List.range n).map dN) [some (dC f), e1, some (.ref q), s3, some (.ref h.length), some (.int i), x6] (h.set q (.lst (kn n S)) ++ [.lst []]) =
      .nx [some (dC f), e1, some (.ref q), s3, some (.ref h.length), some (.int i), y6] (h.set q (.lst (kn n (S ++ cyc f i))) ++ [.lst ((cyc f i).map dN)]) := by
  have C := cyc_cy P hi
  have lt := C.toPa.lt P hi
  have ll := C.toPa.len P hi
  generalize cyc f i = c at *
  obtain ⟨e', h', w, z⟩ := loopN_brk (k := 6) (b := lb__law_laps_2)
    (fun j e h' => j ≤ c.length ∧ (∃ x6 : Option D, e = [some (dC f), e1, some (.ref q), s3, some (.ref h.length), some (.int ((if j < c.length then c.getD j 0 else i : Nat) : Int)), x6]) ∧ h' = h.set q (.lst (kn n (S ++ c.take j))) ++ [.lst ((c.take j).map dN)])
    (fun e h' => (∃ x6 : Option D, e = [some (dC f), e1, some (.ref q), s3, some (.ref h.length), some (.int i), x6]) ∧ h' = h.set q (.lst (kn n (S ++ c))) ++ [.lst (c.map dN)])
    n (e := [some (dC f), e1, some (.ref q), s3, some (.ref h.length), some (.int i), x6]) (h := h.set q (.lst (kn n S)) ++ [.lst []]) ⟨by omega, ⟨x6, by rw [if_pos C.pos, C.hd]⟩, by simp⟩ (by
      rintro j e h' hj ⟨jl, ⟨x6, rfl⟩, rfl⟩
      by_cases q1 : j < c.length
      · refine .inl ?_
        rw [if_pos q1]
        have xm : c.getD j 0 ∈ c := getD_mem q1
        have nS : c.getD j 0 ∉ S ++ c.take j := fun z => by
          rcases List.mem_append.mp z with z | z
          · exact ns _ xm z
          · obtain ⟨k, hk, e⟩ := List.mem_iff_getElem.mp z
            rw [List.length_take] at hk
            rw [List.getElem_take, ← getD_get (by omega : k < c.length)] at e
            have := nodup_getD C.nd (by omega) q1 e
            omega
        have st := lap_step (e1 := e1) (s3 := s3) (x6 := some (dN j)) (h := h) P (lt _ xm) hq nS (K := c.take j) (by rw [List.length_take]; omega)
        have tk : c.take (j + 1) = c.take j ++ [c.getD j 0] := by rw [List.take_add_one, getD_some (a := 0) q1]; rfl
        refine ⟨_, _, st, by omega, ⟨some (dN j), ?_⟩, by rw [tk, List.append_assoc]⟩
        rw [C.nxt q1]
        by_cases q2 : j + 1 < c.length
        · rw [if_pos q2, if_pos q2]
        · rw [if_neg q2, if_neg q2, C.hd]
      · refine .inr ?_
        have e : j = c.length := by omega
        rw [if_neg q1, e, List.take_length]
        have ic : i ∈ S ++ c := List.mem_append_right _ (by have := getD_mem (d := 0) C.pos; rwa [C.hd] at this)
        have st := lap_stop (n := n) (f := f) (e1 := e1) (q := q) (s3 := s3) (s4 := some (.ref h.length)) (x6 := some (dN c.length)) (H := h.set q (.lst (kn n (S ++ c))) ++ [.lst (c.map dN)]) hi (by rw [List.getElem?_append_left (by simpa using hq), List.getElem?_set_self hq]) ic
        exact ⟨_, _, st, ⟨some (dN c.length), rfl⟩, rfl⟩)
  rcases z with ⟨jl, ⟨x6, rfl⟩, rfl⟩ | ⟨⟨x6, rfl⟩, rfl⟩
  · have e : c.length = n := by omega
    rw [if_neg (by omega), List.take_of_length_le (by omega)] at w
    exact ⟨x6, w⟩
  · exact ⟨x6, w⟩
theorem lapsI_succ {i : Nat} : (Hd [f] i → lapsI f n (i + 1) = lapsI f n i ++ [cyc f i]) ∧ (¬ Hd [f] i → lapsI f n (i + 1) = lapsI f n i) := by
  unfold lapsI
  exact ⟨fun h => by rw [heads_succ.1 h, List.map_append]; rfl, fun h => by rw [heads_succ.2 h]⟩
theorem lapsI_le {i : Nat} : (lapsI f n i).length ≤ i := by
  unfold lapsI heads
  rw [List.length_map]
  exact Nat.le_trans (List.length_filter_le _ _) (by simp)
theorem laps_spec (P : IsP n f) (n1 : 1 ≤ n) (n2 : n ≤ 1000) {h : AH} :
    ∃ (r : Nat) (rs : List Nat) (g : AH), c__law_laps [dC f] h = .ok (.ref r) (h ++ g) ∧ RA h.length (h ++ g) r rs ((laps f n).map fun l => l.map dN) := by
  have lf := P.len
  have rp : RepOk 1 (n : Int) := ⟨by omega, by omega, by rw [sizeLine_eq]; omega⟩
  have ek : (List.replicate n [D.bl false]).flatten = kn n [] := by rw [← kn_nil]; simp
  obtain ⟨H0, hH0⟩ : ∃ H0 : AH, H0 = h ++ [.lst [], .lst [.bl false], .lst (kn n [])] := ⟨_, rfl⟩
  obtain ⟨e', h', w, x4, x5, x6, x3, rs, g, rfl, rfl, gl, kq, A, nq⟩ := loopN (k := 3) (b := lb__law_laps_1)
    (fun i e h' => ∃ (x4 x5 x6 x3 : Option D) (rs : List Nat) (g : AH), e = [some (dC f), some (.ref h.length), some (.ref (h.length + 2)), x3, x4, x5, x6] ∧ h' = h ++ g ∧ 3 ≤ g.length ∧ (h ++ g)[h.length + 2]? = some (.lst (kn n (knO [f] n i))) ∧
      RA h.length (h ++ g) h.length rs ((lapsI f n i).map fun l => l.map dN) ∧ ∀ x ∈ rs, x ≠ h.length + 2)
    n (e := [some (dC f), some (.ref h.length), some (.ref (h.length + 2)), none, none, none, none]) (h := H0)
    ⟨none, none, none, none, [], [.lst [], .lst [.bl false], .lst (kn n [])], rfl, hH0, by simp, by
      have e1 : knO [f] n 0 = [] := by unfold knO; rw [List.filter_eq_nil_iff]; simp
      rw [app_get, e1]; rfl, ⟨by simp, Nat.le_refl _, by simp, by simp [lapsI, heads], by simp⟩, by simp⟩ (by
      rintro i e h' hi ⟨x4, x5, x6, x3, rs, g, rfl, rfl, gl, kq, A, nq⟩
      obtain ⟨H, hH⟩ : ∃ H, H = h ++ g := ⟨_, rfl⟩
      rw [← hH] at kq A ⊢
      have Hl : H.length = h.length + g.length := by rw [hH]; simp
      have ql : h.length + 2 < H.length := by omega
      have s1 : sSet 4 (eLst lNil) [some (dC f), some (.ref h.length), some (.ref (h.length + 2)), some (dN i), x4, x5, x6] H = .nx [some (dC f), some (.ref h.length), some (.ref (h.length + 2)), some (dN i), some (.ref H.length), x5, x6] (H ++ [.lst []]) := by simp
      have s2 : sSet 5 (eVar 3) [some (dC f), some (.ref h.length), some (.ref (h.length + 2)), some (dN i), some (.ref H.length), x5, x6] (H ++ [.lst []]) = .nx [some (dC f), some (.ref h.length), some (.ref (h.length + 2)), some (dN i), some (.ref H.length), some (.int i), x6] (H ++ [.lst []]) := by simp [dN]
      have r1 : RgB (n : Int) := rgB_nat (by omega)
      have sf : ∀ (e : AE) (h2 : AH), e[0]? = some (some (dC f)) → sFor (iRange1 (lCons (eCall cLen (lCons (eVar 0) lNil)) lNil)) (gVar 6) lb__law_laps_2 e h2 = sLoop (gVar 6) lb__law_laps_2 ((List.range n).map dN) e h2 := fun e h2 he => by
        have ll : (f.map dN).length = n := by simp [lf]
        unfold dC at he
        generalize f.map dN = fd at *
        simp [he, ll, r1, rg_zero]
      by_cases q : i ∈ knO [f] n i
      · -- met before
        obtain ⟨z, hz, r⟩ := (mem_knO.mp q).2
        have e1 : lapsI f n (i + 1) = lapsI f n i := lapsI_succ.2 fun H => H z hz r
        have e2 : kn n (knO [f] n (i + 1)) = kn n (knO [f] n i) := kn_ext fun x hx => by
          rw [mem_knO, mem_knO]
          constructor
          · rintro ⟨_, z', hz', r'⟩
            by_cases e : z' = i
            · subst e; exact ⟨hx, z, hz, r.trans r'⟩
            · exact ⟨hx, z', by omega, r'⟩
          · rintro ⟨_, z', hz', r'⟩; exact ⟨hx, z', by omega, r'⟩
        have kq' : (H ++ [AO.lst []])[h.length + 2]? = some (.lst (kn n (knO [f] n i))) := app_get_l kq
        obtain ⟨e', h', w, z⟩ := loopN_brk (k := 6) (b := lb__law_laps_2) (fun j e h' => j = 0 ∧ (∃ x6 : Option D, e = [some (dC f), some (.ref h.length), some (.ref (h.length + 2)), some (dN i), some (.ref H.length), some (.int i), x6]) ∧ h' = H ++ [.lst []])
          (fun e h' => (∃ x6 : Option D, e = [some (dC f), some (.ref h.length), some (.ref (h.length + 2)), some (dN i), some (.ref H.length), some (.int i), x6]) ∧ h' = H ++ [.lst []]) n
          (e := [some (dC f), some (.ref h.length), some (.ref (h.length + 2)), some (dN i), some (.ref H.length), some (.int i), x6]) (h := H ++ [.lst []]) ⟨rfl, ⟨x6, rfl⟩, rfl⟩ (by
            rintro j e h' hj ⟨rfl, ⟨x6, rfl⟩, rfl⟩
            exact .inr ⟨_, _, lap_stop hi kq' q, ⟨some (dN 0), rfl⟩, rfl⟩)
        have w' : ∃ y6 : Option D, sLoop (gVar 6) lb__law_laps_2 ((List.range n).map dN) [some (dC f), some (.ref h.length), some (.ref (h.length + 2)), some (dN i), some (.ref H.length), some (.int i), x6] (H ++ [.lst []]) = .nx [some (dC f), some (.ref h.length), some (.ref (h.length + 2)), some (dN i), some (.ref H.length), some (.int i), y6] (H ++ [.lst []]) := by
          rcases z with ⟨z, _, _⟩ | ⟨⟨y6, rfl⟩, rfl⟩
          · omega
          · exact ⟨y6, w⟩
        obtain ⟨y6, w'⟩ := w'
        refine ⟨[some (dC f), some (.ref h.length), some (.ref (h.length + 2)), some (dN i), some (.ref H.length), some (.int i), y6], H ++ [.lst []], ?_, _, _, _, _, rs, g ++ [.lst []], rfl, by rw [hH, List.append_assoc], by simp; omega, ?_, ?_, nq⟩
        · show lb__law_laps_1 [some (dC f), some (.ref h.length), some (.ref (h.length + 2)), some (dN i), x4, x5, x6] H = _
          unfold lb__law_laps_1
          refine sqR s1 (sqR s2 (sqR ((sf _ _ rfl).trans w') ?_))
          have t := truth_lst (r := H.length) (h := H ++ [.lst []]) (ds := []) (by simp)
          simp [t]
        · rw [e2, ← List.append_assoc, ← hH]; exact kq'
        · rw [e1, ← List.append_assoc, ← hH]; exact A.app _
      · -- a new one
        have hd : Hd [f] i := fun z hz r => q (mem_knO.mpr ⟨hi, z, hz, r⟩)
        have C := cyc_cy P hi
        have e1 : lapsI f n (i + 1) = lapsI f n i ++ [cyc f i] := lapsI_succ.1 hd
        have e2 : kn n (knO [f] n i ++ cyc f i) = kn n (knO [f] n (i + 1)) := kn_ext fun x hx => by
          rw [List.mem_append, mem_knO, mem_knO, C.mem]
          constructor
          · rintro (⟨_, z', hz', r'⟩ | r)
            · exact ⟨hx, z', by omega, r'⟩
            · exact ⟨hx, i, by omega, r⟩
          · rintro ⟨_, z', hz', r'⟩
            by_cases e : z' = i
            · subst e; exact .inr r'
            · exact .inl ⟨hx, z', by omega, r'⟩
        obtain ⟨y6, w'⟩ := lap_run (e1 := some (.ref h.length)) (s3 := some (dN i)) (x6 := x6) (h := H) (S := knO [f] n i) P n2 hi ql (fun x hx z => by
          obtain ⟨xn, z', hz', r'⟩ := mem_knO.mp z
          have r2 := C.mem.mp hx
          exact hd z' hz' (r'.trans (r2.symm (one_P P) hi)))
        rw [set_self kq] at w'
        have kl := lapsI_le (f := f) (n := n) (i := i)
        have rl : rs.length ≤ i := by rw [A.len]; simpa using kl
        obtain ⟨H2, hH2⟩ : ∃ H2 : AH, H2 = H.set (h.length + 2) (.lst (kn n (knO [f] n i ++ cyc f i))) ++ [.lst ((cyc f i).map dN)] := ⟨_, rfl⟩
        rw [← hH2] at w'
        have A2 : RA h.length H2 h.length rs ((lapsI f n i).map fun l => l.map dN) := by rw [hH2]; exact (A.set (by omega) nq).app _
        have GL : H2[H.length]? = some (.lst ((cyc f i).map dN)) := by
          rw [hH2, List.getElem?_append_right (by simp)]; simp
        have A3 := A2.push GL (by omega) (by omega)
        have ap : ∀ v H, appO (some (.lst (rs.map D.ref))) h.length v H = .ok .non (H.set h.length (.lst (rs.map D.ref ++ [v]))) := fun v H => appO_lst (by rw [List.length_map, sizeLine_eq]; omega)
        have tt := truth_lst GL
        have ne : ((cyc f i).map dN).isEmpty = false := by
          have := C.pos
          cases hc : cyc f i with
          | nil => rw [hc] at this; simp at this
          | cons x l => rfl
        rw [ne] at tt
        obtain ⟨g1, hg1⟩ : ∃ g1, H2 = h ++ g1 := by
          obtain ⟨g', hg'⟩ := app_set_ex (h := h) (g := g) (i := h.length + 2) (o := .lst (kn n (knO [f] n i ++ cyc f i))) (by omega)
          exact ⟨g' ++ [.lst ((cyc f i).map dN)], by rw [hH2, hH, hg', List.append_assoc]⟩
        obtain ⟨g2, hg2⟩ := app_set_ex (h := h) (g := g1) (i := h.length) (o := .lst (rs.map D.ref ++ [.ref H.length])) (Nat.le_refl _)
        have H2l : H2.length = H.length + 1 := by rw [hH2]; simp
        have g2l : h.length + g2.length = H.length + 1 := by
          have := congrArg List.length hg2
          rw [← hg1] at this
          simp at this
          omega
        rw [hg1, hg2] at A3
        refine ⟨[some (dC f), some (.ref h.length), some (.ref (h.length + 2)), some (dN i), some (.ref H.length), some (.int i), y6], h ++ g2, ?_, _, _, _, _, rs ++ [H.length], g2, rfl, rfl, by omega, ?_, ?_, ?_⟩
        · show lb__law_laps_1 [some (dC f), some (.ref h.length), some (.ref (h.length + 2)), some (dN i), x4, x5, x6] H = _
          unfold lb__law_laps_1
          refine sqR s1 (sqR s2 (sqR ((sf _ _ rfl).trans w') ?_))
          have rf2 := A2.rf
          rw [← hg2, ← hg1]
          have ty : tyOk H2 "list" (.ref h.length) = true := by simp [tyOk, rf2]
          simp [tt, ty, rf2, ap]
        · rw [← hg2, ← hg1, List.getElem?_set_ne (by omega), hH2, ← e2, List.getElem?_append_left (by simpa using ql), List.getElem?_set_self ql]
        · rw [e1, List.map_append]; exact A3
        · intro x hx
          rcases List.mem_append.mp hx with z | z
          · exact nq x z
          · rw [List.mem_singleton] at z; omega)
  have A' : RA h.length (h ++ g) h.length rs ((laps f n).map fun l => l.map dN) := A
  refine ⟨h.length, rs, g, ?_, A'⟩
  have e : c__law_laps [dC f] h = gc h (.ok (.ref h.length) (h ++ g)) := by
    show gc h (outS (m__law_laps [some (dC f), none, none, none, none, none, none] h)) = _
    have key : m__law_laps [some (dC f), none, none, none, none, none, none] h = .rt (.ref h.length) (h ++ g) := by
      have fl : (f.map dN).length = n := by simp [lf]
      have r1 : RgB (n : Int) := rgB_nat (by omega)
      unfold m__law_laps
      refine sqR (e1 := [some (dC f), some (.ref h.length), none, none, none, none, none]) (h1 := h ++ [.lst []]) (by simp) ?_
      have G1 : (h ++ [AO.lst [], .lst [.bl false]])[h.length + 1]? = some (.lst [.bl false]) := by rw [app_get]; rfl
      have l1 : (h ++ [AO.lst [], .lst [.bl false]]).length = h.length + 2 := by simp
      refine sqR (e1 := [some (dC f), some (.ref h.length), some (.ref (h.length + 2)), none, none, none, none]) (h1 := H0) (by
        have mu : oMul (.ref (h.length + 1)) (.int (n : Int)) (h ++ [AO.lst [], .lst [.bl false]]) = .ok (.ref (h.length + 2)) H0 := by
          unfold oMul
          dsimp only
          rw [G1]
          dsimp only
          rw [if_pos (show RepOk [D.bl false].length (n : Int) from rp), Int.toNat_natCast, ek, l1, hH0, List.append_assoc]; rfl
        unfold dC
        generalize f.map dN = fd at *
        simp [fl, mu, -oMul_ref_]) ?_
      refine sqR (e1 := [some (dC f), some (.ref h.length), some (.ref (h.length + 2)), x3, x4, x5, x6]) (h1 := h ++ g) (by
        have q : lCons (eCall cLen (lCons (eVar 0) lNil)) lNil [some (dC f), some (.ref h.length), some (.ref (h.length + 2)), none, none, none, none] H0 = .ok [.int (n : Int)] H0 := by
          unfold dC
          generalize f.map dN = fd at *
          simp [fl]
        rw [sFor_range1, q, forR_ok, if_pos r1, Int.toNat_natCast, rg_zero]
        exact w) ?_
      simp
    rw [key]; rfl
  rw [e]
  have ne : 0 < rs.length := by
    rw [A'.len, List.length_map]
    unfold laps
    rw [List.length_map]
    exact List.length_pos_of_mem (mem_heads.mpr ⟨(by omega : 0 < n), fun z hz => absurd hz (by omega)⟩)
  refine gc_deep A'.rf ?_
  cases rs with
  | nil => simp at ne
  | cons x l => rfl
end
end Law

set_option maxHeartbeats 1000000
/-! lists of lists: filtered, plain; parity and sign -/
namespace Law
open PySem Rf L2
section
variable {b r : Nat} {H H' : AH} {rs : List Nat} {L : List (List D)}
theorem RA.map {β : Type} (A : RA b H r rs L) (F : Option AO → β) : (rs.map fun x => F H[x]?) = L.map fun l => F (some (.lst l)) := by
  have := congrArg (List.map F) A.at_
  simpa [List.map_map, Function.comp_def] using this
theorem RA.filt (A : RA b H r rs L) (q : Option AO → Bool) : (rs.filter fun x => q H[x]?).map (fun x => H[x]?) = (L.filter fun l => q (some (.lst l))).map fun l => some (.lst l) := by
  have := congrArg (List.filter q) A.at_
  rw [List.filter_map, List.filter_map] at this
  exact this
theorem RA.count (A : RA b H r rs L) (q : Option AO → Bool) : (rs.filter fun x => q H[x]?).length = (L.filter fun l => q (some (.lst l))).length := by
  simpa using congrArg List.length (A.filt q)
theorem RA.filter (A : RA b H r rs L) (q : Option AO → Bool) (hb : b ≤ H.length) : RA b (H ++ [.lst ((rs.filter fun x => q H[x]?).map D.ref)]) H.length (rs.filter fun x => q H[x]?) (L.filter fun l => q (some (.lst l))) := by
  refine ⟨by simp, hb, fun x hx => A.bs x (List.mem_filter.mp hx).1, ?_, fun x hx => by have := A.lt.2 x (List.mem_filter.mp hx).1; omega⟩
  rw [← A.filt q]
  apply List.map_congr_left
  intro x hx
  rw [List.getElem?_append_left (A.lt.2 x (List.mem_filter.mp hx).1)]
def lenO' : Option AO → Nat
  | some (.lst l) => l.length
  | _ => 0
theorem RA.lenAt (A : RA b H r rs L) {x : Nat} (hx : x ∈ rs) : ∃ l, H[x]? = some (.lst l) ∧ l ∈ L := by
  obtain ⟨i, hi, rfl⟩ := List.mem_iff_getElem.mp hx
  have hl : i < L.length := by rw [← A.len]; exact hi
  obtain ⟨y, e1, e2, e3⟩ := A.get hl
  rw [List.getElem?_eq_getElem hi] at e1
  rw [Option.some.inj e1, e3]
  refine ⟨_, rfl, ?_⟩
  rw [List.getD_eq_getElem?_getD, List.getElem?_eq_getElem hl]
  exact List.getElem_mem hl
/-- tuple of tuples -/
theorem plain_spec (A : RA b H r rs L) (l : L.length ≤ 100000) (pl : ∀ c ∈ L, pures c = true) : c__law_plain [.ref r] H = .ok (.tup (L.map D.tup)) H := by
  have rl : rs.length = L.length := A.len
  have lc : lc__law_plain_1 [some (.ref r), none] H = .ok (.ref H.length) (H ++ [.lst (L.map D.tup)]) := by
    unfold lc__law_plain_1
    have z := eLc_pureL (φ := D.ref) (k := 1) (r := r) (mi := iVal (eVar 0)) (tt := eC (.bl true)) (te := eCall cTuple (lCons (eVar 1) lNil)) (vs := [1]) (e := [some (.ref r), none]) (h := H) (h1 := H) rs (fun _ => true) (fun x => D.tup (match H[x]? with | some (.lst l) => l | _ => []))
      (by
        have := iVal_ref (m := eVar 0) (e := [some (.ref r), none]) (h := H) (h1 := H) (r := r) (ds := rs.map D.ref) (by simp) A.rf
        simpa using this) A.rf (by rw [sizeLine_eq]; omega) (fun _ _ => rfl) (fun x hx => by
          obtain ⟨c, e, _⟩ := A.lenAt hx
          simp [wipeE, e])
    rw [z, List.filter_eq_self.mpr (by simp)]
    have := A.map (F := fun o => D.tup (match o with | some (.lst l) => l | _ => []))
    rw [this]
  have e : c__law_plain [.ref r] H = gc H (.ok (.tup (L.map D.tup)) (H ++ [.lst (L.map D.tup)])) := by
    unfold c__law_plain fsem
    have G : (H ++ [AO.lst (L.map D.tup)])[H.length]? = some (.lst (L.map D.tup)) := by simp
    generalize H ++ [AO.lst (L.map D.tup)] = H2 at *
    generalize H.length = q at *
    simp [m__law_plain, lc, G]
  rw [e, gc_app]
  exact pures_iff.mpr fun d hd => by
    obtain ⟨c, hc, rfl⟩ := List.mem_map.mp hd
    exact pl c hc
end
section
variable {n : Nat} {f : List Nat}
/-- how many laps have an even number of points -/
noncomputable def evens (f : List Nat) (n : Nat) : Nat := ((laps f n).filter fun l => l.length % 2 == 0).length
noncomputable def sgn (f : List Nat) (n : Nat) : Int := 1 - 2 * ((evens f n % 2 : Nat) : Int)
theorem laps_pos (P : IsP n f) : ∀ l ∈ laps f n, 0 < l.length ∧ l.length ≤ n := fun l hl => by
  obtain ⟨x, hx, rfl⟩ := List.mem_map.mp hl
  have hx := (mem_heads.mp hx).1
  have C := cyc_cy P hx
  exact ⟨C.pos, C.toPa.len P hx⟩
theorem laps_len : (laps f n).length ≤ n := lapsI_le
theorem lapsD_len : ((laps f n).map fun l => l.map dN).length ≤ n := by rw [List.length_map]; exact laps_len
theorem parity_spec (P : IsP n f) (n1 : 1 ≤ n) (n2 : n ≤ 1000) {h : AH} : c__law_parity [dC f] h = .ok (.int (sgn f n)) h := by
  obtain ⟨r, rs, g, w, A⟩ := laps_spec P n1 n2 (h := h)
  have ll := lapsD_len (f := f) (n := n)
  have rl := A.len
  obtain ⟨H, hH⟩ : ∃ H, H = h ++ g := ⟨_, rfl⟩
  rw [← hH] at w A
  obtain ⟨E, hE⟩ : ∃ E : List Nat, E = rs.filter fun x => lenO' H[x]? % 2 == 0 := ⟨_, rfl⟩
  have lc : lc__law_parity_1 [some (dC f), none, none] h = .ok (.ref H.length) (H ++ [.lst (E.map D.ref)]) := by
    unfold lc__law_parity_1
    have z := eLc_pureL (φ := D.ref) (k := 2) (r := r) (mi := iVal (eCall (argn 1 c__law_laps) (lCons (eVar 0) lNil))) (tt := eOp oEq (eOp oMod (eCall cLen (lCons (eVar 2) lNil)) (eC (.int 2))) (eC (.int 0))) (te := eVar 2) (vs := [2]) (e := [some (dC f), none, none]) (h := h) (h1 := H) rs (fun x => lenO' H[x]? % 2 == 0) D.ref
      (by
        have := iVal_ref (m := eCall (argn 1 c__law_laps) (lCons (eVar 0) lNil)) (e := [some (dC f), none, none]) (h := h) (h1 := H) (r := r) (ds := rs.map D.ref) (by simp [w]) A.rf
        simpa using this) A.rf (by rw [sizeLine_eq]; omega) (fun x hx => by
          obtain ⟨c, e, _⟩ := A.lenAt hx
          have md : (c.length : Int) % 2 = ((c.length % 2 : Nat) : Int) := by rw [Int.natCast_emod]; rfl
          have bq : (((c.length % 2 : Nat) : Int) == 0) = (c.length % 2 == 0) := beq_nat _ 0
          have l0 : lenO' (some (.lst c)) = c.length := rfl
          rw [e, l0]
          generalize c.length % 2 = u at *
          simp [wipeE, e, oMod_, md, bq, -Int.natCast_emod]) (fun x hx => by simp [wipeE])
    rw [z, hE]
  have ec : E.length = evens f n := by
    rw [hE, A.count (fun o => lenO' o % 2 == 0), List.filter_map, List.length_map]
    unfold evens
    congr 1
    apply List.filter_congr
    intro l _
    simp [lenO', Function.comp]
  have e : c__law_parity [dC f] h = gc h (.ok (.int (sgn f n)) (h ++ (g ++ [.lst (E.map D.ref)]))) := by
    unfold c__law_parity fsem
    rw [← List.append_assoc, ← hH]
    have G : (H ++ [AO.lst (E.map D.ref)])[H.length]? = some (.lst (E.map D.ref)) := by simp
    have md : (E.length : Int) % 2 = ((E.length % 2 : Nat) : Int) := by rw [Int.natCast_emod]; rfl
    have el : (E.map D.ref).length = E.length := by simp
    have cm : CMulX 2 ((E.length % 2 : Nat) : Int) := mulB (by omega) (by omega) (by omega) (by omega)
    unfold sgn
    rw [← ec]
    generalize E.map D.ref = Ed at *
    generalize hu : E.length % 2 = u at *
    generalize H ++ [AO.lst Ed] = H2 at *
    generalize H.length = q at *
    simp [m__law_parity, lc, G, el, oMod_, md, oMul_, cm, hu, -Int.natCast_emod]
  rw [e, gc_app rfl]
theorem sign_spec (P : IsP n f) (n1 : 1 ≤ n) (n2 : n ≤ 1000) {h : AH} : c_sign [dC f] h = .ok (.int (sgn f n)) h := by
  have co := cycles_of_spec P n2 false (h := h)
  have rl := cyRows_le (b := false) (f := f) (n := n) (i := n)
  obtain ⟨R, hR⟩ : ∃ R : List (List Nat), R = (cyRows false f n n).filter fun l => l.length % 2 == 0 := ⟨_, rfl⟩
  have lc : lc_sign_1 [some (dC f), none, none] h = .ok (.ref h.length) (h ++ [.lst (R.map dC)]) := by
    unfold lc_sign_1
    have z := eLc_pure (φ := dC) (k := 2) (mi := iVal (eCallKd 1 0 [] [(.bl false)] c_cycles_of (lCons (eVar 0) lNil) lNil)) (tt := eOp oEq (eOp oMod (eCall cLen (lCons (eVar 2) lNil)) (eC (.int 2))) (eC (.int 0))) (te := eVar 2) (vs := [2]) (e := [some (dC f), none, none]) (h := h) (h1 := h) (cyRows false f n n) (fun l => l.length % 2 == 0) dC
      (iVal_tup (by simp [permK, Cn.d, co])) (by rw [sizeLine_eq]; omega) (fun c _ => by
          have md : (c.length : Int) % 2 = ((c.length % 2 : Nat) : Int) := by rw [Int.natCast_emod]; rfl
          have bq : (((c.length % 2 : Nat) : Int) == 0) = (c.length % 2 == 0) := beq_nat _ 0
          have l0 : (c.map dN).length = c.length := by simp
          unfold dC
          generalize c.map dN = cd at *
          generalize hu : c.length % 2 = u at *
          simp [wipeE, l0, oMod_, md, bq, hu, -Int.natCast_emod]) (fun c _ => by simp [wipeE])
    rw [z, hR]
  have ec : R.length = evens f n := by
    rw [hR]
    unfold evens cyRows
    rw [List.filter_filter]
    congr 1
    apply List.filter_congr
    intro l hl
    have := (laps_pos P l hl).1
    by_cases q : l.length % 2 = 0
    · have : 1 < l.length := by omega
      simp [q, this]
    · simp [q]
  have e : c_sign [dC f] h = gc h (.ok (.int (sgn f n)) (h ++ [.lst (R.map dC)])) := by
    unfold c_sign fsem
    have G : (h ++ [AO.lst (R.map dC)])[h.length]? = some (.lst (R.map dC)) := by simp
    have md : (R.length : Int) % 2 = ((R.length % 2 : Nat) : Int) := by rw [Int.natCast_emod]; rfl
    have el : (R.map dC).length = R.length := by simp
    unfold sgn
    rw [← ec]
    have u2 : R.length % 2 = 0 ∨ R.length % 2 = 1 := by omega
    generalize R.map dC = Ed at *
    generalize h ++ [AO.lst Ed] = H2 at *
    generalize h.length = q at *
    rcases u2 with u | u
    · rw [u] at md
      have md' : (R.length : Int) % 2 = 0 := md
      simp [m_sign, lc, G, el, oMod_, md', u]
    · rw [u] at md
      have md' : (R.length : Int) % 2 = 1 := md
      simp [m_sign, lc, G, el, oMod_, md', u]
  rw [e, gc_app rfl]
end
end Law

set_option maxHeartbeats 1000000
/-! periods -/
namespace Law
open PySem Rf L2
/-- the least common multiple of the lengths, one after another -/
def lcmL (a : Nat) (ls : List Nat) : Nat := ls.foldl Nat.lcm a
theorem lcmL_bound : ∀ (ls : List Nat) (a : Nat), (∀ x ∈ ls, 1 ≤ x) → 1 ≤ a → 1 ≤ lcmL a ls ∧ lcmL a ls ≤ a * 2 ^ ls.sum
  | [], a, _, h => by simp [lcmL, h]
  | x :: ls, a, hx, h => by
    have x1 := hx x (by simp)
    have p : 0 < a * x := Nat.mul_pos h x1
    have l0 : 1 ≤ Nat.lcm a x := Nat.lcm_pos h x1
    have l1 : Nat.lcm a x ≤ a * x := Nat.le_of_dvd p (Nat.lcm_dvd_mul a x)
    have l2 : x ≤ 2 ^ x := Nat.le_of_lt Nat.lt_two_pow_self
    have ih := lcmL_bound ls (Nat.lcm a x) (fun y hy => hx y (by simp [hy])) l0
    refine ⟨ih.1, Nat.le_trans ih.2 ?_⟩
    rw [List.sum_cons, Nat.pow_add, ← Nat.mul_assoc]
    exact Nat.mul_le_mul_right _ (Nat.le_trans l1 (Nat.mul_le_mul_left _ l2))
theorem lcmL_one : ∀ (ls : List Nat) (a : Nat), (∀ x ∈ ls, 1 ≤ x) → lcmL a (ls.filter fun x => decide (1 < x)) = lcmL a ls
  | [], a, _ => rfl
  | x :: ls, a, hx => by
    have x1 := hx x (by simp)
    have ih := fun a => lcmL_one ls a fun y hy => hx y (by simp [hy])
    rw [List.filter_cons]
    by_cases q : 1 < x
    · rw [if_pos (by simpa using q)]
      exact ih (Nat.lcm a x)
    · rw [if_neg (by simpa using q)]
      have : x = 1 := by omega
      subst this
      rw [ih a]
      show lcmL a ls = lcmL (Nat.lcm a 1) ls
      rw [Nat.lcm_one_right]
section
variable {n : Nat} {f : List Nat}
noncomputable def per (f : List Nat) (n : Nat) : Nat := lcmL 1 ((laps f n).map List.length)
theorem laps_lens (P : IsP n f) : (laps f n).map List.length = lens f n := by
  have := cyRows_lens P
  rwa [cyRows_true] at this
theorem lens_sum (P : IsP n f) : ((laps f n).map List.length).sum = n := by
  have h := (flat_perm (n := n) (one_P P)).length_eq
  rw [List.length_flatMap, List.length_range] at h
  rw [laps_lens P]
  unfold lens
  have : ((heads [f] n n).map (Rf.len f n)) = (heads [f] n n).map fun a => (orb [f] n a).length := rfl
  rw [this]; exact h
theorem sum_take (ls : List Nat) (i : Nat) : (ls.take i).sum ≤ ls.sum := by
  conv => rhs; rw [← List.take_append_drop i ls]
  rw [List.sum_append]; omega
theorem sum_filter (p : Nat → Bool) : ∀ ls : List Nat, (ls.filter p).sum ≤ ls.sum
  | [] => by simp
  | x :: ls => by
    have := sum_filter p ls
    rw [List.filter_cons]
    split <;> simp <;> omega
theorem lcm_take {ls : List Nat} {n : Nat} (h1 : ∀ x ∈ ls, 1 ≤ x) (h2 : ls.sum ≤ n) (h3 : n ≤ 60) (i : Nat) : 1 ≤ lcmL 1 (ls.take i) ∧ lcmL 1 (ls.take i) ≤ 2 ^ 60 := by
  obtain ⟨a, b⟩ := lcmL_bound (ls.take i) 1 (fun x hx => h1 x (List.take_subset _ _ hx)) (Nat.le_refl _)
  refine ⟨a, Nat.le_trans b ?_⟩
  rw [Nat.one_mul]
  exact Nat.pow_le_pow_right (by omega) (by have := sum_take ls i; omega)
theorem lcmL_snoc {a x : Nat} {ls : List Nat} : lcmL a (ls ++ [x]) = Nat.lcm (lcmL a ls) x := by unfold lcmL; rw [List.foldl_append]; rfl
theorem period_spec (P : IsP n f) (n2 : n ≤ 60) {h : AH} : c_period [dC f] h = .ok (dN (per f n)) h := by
  have co := cycles_of_spec P (by omega) false (h := h)
  obtain ⟨R, hR⟩ : ∃ R, R = cyRows false f n n := ⟨_, rfl⟩
  have eR : R.map List.length = ((laps f n).map List.length).filter fun x => decide (1 < x) := by
    rw [hR, List.filter_map]
    unfold cyRows
    congr 1
  have pos : ∀ x ∈ (laps f n).map List.length, 1 ≤ x := fun x hx => by
    obtain ⟨l, hl, rfl⟩ := List.mem_map.mp hx
    exact (laps_pos P l hl).1
  have sm := lens_sum P
  have ep : per f n = lcmL 1 (R.map List.length) := by rw [eR, lcmL_one _ _ pos]; rfl
  have bd : ∀ i, 1 ≤ lcmL 1 ((R.map List.length).take i) ∧ lcmL 1 ((R.map List.length).take i) ≤ 2 ^ 60 := fun i =>
    lcm_take (n := n) (fun x hx => pos x (by rw [eR] at hx; exact (List.mem_filter.mp hx).1)) (by rw [eR]; have := sum_filter (fun x => decide (1 < x)) ((laps f n).map List.length); omega) n2 i
  have Rl : ∀ c ∈ R, c.length ≤ n := fun c hc => by
    rw [hR] at hc
    unfold cyRows at hc
    exact (laps_pos P c (List.mem_filter.mp hc).1).2
  rw [← hR] at co
  obtain ⟨e', h', w, x2, rfl, rfl⟩ := loopM (k := 2) (φ := dC) (b := lb_period_1)
    (fun i e h' => ∃ x2 : Option D, e = [some (dC f), some (dN (lcmL 1 ((R.map List.length).take i))), x2] ∧ h' = h)
    R (e := [some (dC f), some (dN 1), none]) (h := h) ⟨none, by simp [lcmL], rfl⟩ (by
      rintro i c e h' hc ⟨x2, rfl, rfl⟩
      obtain ⟨b1, b2⟩ := bd i
      have cl := Rl c (List.mem_of_getElem? hc)
      have tk : (R.map List.length).take (i + 1) = (R.map List.length).take i ++ [c.length] := by
        rw [List.take_add_one, List.getElem?_map, hc]; rfl
      have p64 : (2 : Nat) ^ 60 < 2 ^ 64 := by decide
      have q64 : (60 : Nat) < 2 ^ 64 := by decide
      have lm := cLcm_N (a := lcmL 1 ((R.map List.length).take i)) (b := c.length) (h := h') (by omega) (by omega)
      have l0 : (c.map dN).length = c.length := by simp
      rw [tk]
      refine ⟨[some (dC f), some (dN (lcmL 1 ((R.map List.length).take i ++ [c.length]))), some (dC c)], h', ?_, some (dC c), rfl, rfl⟩
      rw [lcmL_snoc]
      generalize (lcmL 1 ((R.map List.length).take i)).lcm c.length = u at *
      generalize lcmL 1 ((R.map List.length).take i) = v at *
      unfold dC
      generalize c.map dN = cd at *
      simp [lb_period_1, dN, l0, lm])
  rw [List.take_of_length_le (by simp)] at w
  have e : c_period [dC f] h' = gc h' (.ok (dN (per f n)) h') := by
    unfold c_period fsem
    have iv : iVal (eCallKd 1 0 [] [(.bl false)] c_cycles_of (lCons (eVar 0) lNil) lNil) [some (dC f), some (dN 1), none] h' = .ok (stat (R.map dC)) h' := iVal_tup (by simp [permK, Cn.d, co])
    have sf := sFor_stat (g := gVar 2) (b := lb_period_1) iv
    rw [ep]
    have key : m_period [some (dC f), none, none] h' = .rt (dN (lcmL 1 (R.map List.length))) h' := by
      unfold m_period
      refine sqR (e1 := [some (dC f), some (dN 1), none]) (h1 := h') (by simp [dN]) ?_
      refine sqR (sf.trans w) ?_
      simp
    show gc h' (outS (m_period [some (dC f), none, none] h')) = _
    rw [key]; rfl
  rw [e, gc_same rfl]
/-- the first multiple of d that the length divides -/
theorem lcm_first {d L k : Nat} (d1 : 1 ≤ d) (L1 : 1 ≤ L) (h : ∀ j, j < k → ¬ d * (j + 1) % L = 0) : d * (k + 1) ≤ Nat.lcm d L := by
  have dv := Nat.dvd_lcm_left d L
  obtain ⟨t, ht⟩ := dv
  have p : 0 < Nat.lcm d L := Nat.lcm_pos d1 L1
  have t0 : t ≠ 0 := fun e => by rw [e] at ht; omega
  have tk : k + 1 ≤ t := by
    refine Nat.le_of_not_lt fun z => ?_
    have := h (t - 1) (by omega)
    rw [show t - 1 + 1 = t by omega, ← ht] at this
    exact this (Nat.mod_eq_zero_of_dvd (Nat.dvd_lcm_right d L))
  rw [ht]
  exact Nat.mul_le_mul_left _ tk
theorem lcm_hit {d L k : Nat} (d1 : 1 ≤ d) (L1 : 1 ≤ L) (h : ∀ j, j < k → ¬ d * (j + 1) % L = 0) (z : d * (k + 1) % L = 0) : d * (k + 1) = Nat.lcm d L := by
  have a := lcm_first d1 L1 h
  have b := Nat.le_of_dvd (Nat.mul_pos d1 (by omega)) (Nat.lcm_dvd (Nat.dvd_mul_right d (k + 1)) (Nat.dvd_of_mod_eq_zero z))
  omega
theorem period_inner {d r : Nat} {l : List D} {x0 x4 : Option D} {H : AH} (d1 : 1 ≤ d) (l1 : 1 ≤ l.length) (l2 : l.length ≤ 1000) (G : H[r]? = some (.lst l)) :
    ∃ y4, sFor (iRange1 (lCons (eCall cLen (lCons (eVar 2) lNil)) lNil)) (gVar 4) lb__law_period_2 [x0, some (dN d), some (.ref r), some (dN d), x4] H = .nx [x0, some (dN (Nat.lcm d l.length)), some (.ref r), some (dN d), y4] H := by
  obtain ⟨L, hL⟩ : ∃ L, L = l.length := ⟨_, rfl⟩
  rw [← hL] at l1 l2 ⊢
  obtain ⟨e', h', w, z⟩ := loopN_brk (k := 4) (b := lb__law_period_2)
    (fun j e h' => (∃ x4 : Option D, e = [x0, some (dN (d * (j + 1))), some (.ref r), some (dN d), x4]) ∧ h' = H ∧ ∀ i, i < j → ¬ d * (i + 1) % L = 0)
    (fun e h' => (∃ x4 : Option D, e = [x0, some (dN (Nat.lcm d L)), some (.ref r), some (dN d), x4]) ∧ h' = H)
    L (e := [x0, some (dN d), some (.ref r), some (dN d), x4]) (h := H) ⟨⟨x4, by simp⟩, rfl, by omega⟩ (by
      rintro j e h' hj ⟨⟨x4, rfl⟩, rfl, no⟩
      have L0 : 0 < L := l1
      have md : ((d * (j + 1) : Nat) : Int) % (L : Int) = ((d * (j + 1) % L : Nat) : Int) := by rw [Int.natCast_emod]
      have cl : cLen [.ref r] h' = .ok (.int (L : Int)) h' := by rw [cLen_ref G, hL]
      by_cases q : d * (j + 1) % L = 0
      · refine .inr ⟨[x0, some (dN (Nat.lcm d L)), some (.ref r), some (dN d), some (dN j)], h', ?_, ⟨_, rfl⟩, rfl⟩
        rw [← lcm_hit d1 l1 no q]
        rw [q] at md
        have md' : ((d * (j + 1) : Nat) : Int) % (L : Int) = 0 := md
        generalize d * (j + 1) = u at *
        simp [lb__law_period_2, dN, cl, oMod_, L0, md', -cLen_ref_]
      · refine .inl ⟨[x0, some (dN (d * (j + 1 + 1))), some (.ref r), some (dN d), some (dN j)], h', ?_, ⟨_, rfl⟩, rfl, fun i hi => ?_⟩
        · have ad : ((d * (j + 1) : Nat) : Int) + (d : Int) = ((d * (j + 1 + 1) : Nat) : Int) := by rw [Nat.mul_add d (j + 1) 1, Nat.mul_one]; rfl
          have nz : ¬ ((d * (j + 1) % L : Nat) : Int) = 0 := by omega
          generalize d * (j + 1 + 1) = v at *
          generalize hm : d * (j + 1) % L = u2 at *
          generalize d * (j + 1) = u at *
          simp [lb__law_period_2, dN, cl, oMod_, L0, md, q, nz, ad, -cLen_ref_, -Int.natCast_emod, -Int.natCast_add]
        · by_cases e : i = j
          · subst e; exact q
          · exact no i (by omega))
  have z' : ∃ y4 : Option D, e' = [x0, some (dN (Nat.lcm d L)), some (.ref r), some (dN d), y4] ∧ h' = H := by
    rcases z with ⟨⟨x4, _⟩, _, no⟩ | ⟨⟨x4, e⟩, hh⟩
    · exfalso
      have a := lcm_first d1 l1 no
      have b : Nat.lcm d L ≤ d * L := Nat.le_of_dvd (Nat.mul_pos d1 l1) (Nat.lcm_dvd_mul d L)
      have : d * (L + 1) = d * L + d := by rw [Nat.mul_add, Nat.mul_one]
      omega
    · exact ⟨x4, e, hh⟩
  obtain ⟨y4, rfl, rfl⟩ := z'
  refine ⟨y4, ?_⟩
  have q : lCons (eCall cLen (lCons (eVar 2) lNil)) lNil [x0, some (dN d), some (.ref r), some (dN d), x4] h' = .ok [.int (L : Int)] h' := by simp [G, hL]
  rw [sFor_range1, q, forR_ok, if_pos (rgB_nat (by omega)), Int.toNat_natCast, rg_zero]
  exact w
theorem law_period_spec (P : IsP n f) (n1 : 1 ≤ n) (n2 : n ≤ 60) {h : AH} : c__law_period [dC f] h = .ok (dN (per f n)) h := by
  obtain ⟨r, rs, g, w, A⟩ := laps_spec P n1 (by omega) (h := h)
  have ll := lapsD_len (f := f) (n := n)
  have rl := A.len
  have pos : ∀ x ∈ (laps f n).map List.length, 1 ≤ x := fun x hx => by
    obtain ⟨l, hl, rfl⟩ := List.mem_map.mp hx
    exact (laps_pos P l hl).1
  obtain ⟨H, hH⟩ : ∃ H, H = h ++ g := ⟨_, rfl⟩
  rw [← hH] at w A
  obtain ⟨e', h', w2, ⟨x2, x3, x4, rfl⟩, rfl⟩ := liveL_inv (g := gVar 2) (b := lb__law_period_1) (r := r) (ds := rs.map D.ref)
    (fun i e h' => (∃ x2 x3 x4 : Option D, e = [some (dC f), some (dN (lcmL 1 (((laps f n).map List.length).take i))), x2, x3, x4]) ∧ h' = H)
    (by rintro i e h' ⟨_, rfl⟩; exact A.rf) (e := [some (dC f), some (dN 1), none, none, none]) (h := H) ⟨⟨none, none, none, by simp [lcmL]⟩, rfl⟩ (by
      rintro i d e h' hd ⟨⟨x2, x3, x4, rfl⟩, rfl⟩
      have il : i < rs.length := by have := (List.getElem?_eq_some_iff.mp hd).1; simpa using this
      have il2 : i < ((laps f n).map fun l => l.map dN).length := by rw [← rl]; exact il
      obtain ⟨y, ey, _, G⟩ := A.get il2
      rw [List.getElem?_map, ey] at hd
      have hd : D.ref y = d := Option.some.inj hd
      subst hd
      have il3 : i < (laps f n).length := by simpa using il2
      have el : ((laps f n).map fun l => l.map dN).getD i [] = ((laps f n)[i]).map dN := by
        rw [List.getD_eq_getElem?_getD, List.getElem?_map, List.getElem?_eq_getElem il3]; rfl
      rw [el] at G
      have lp := laps_pos P _ (List.getElem_mem il3)
      have b1 := (lcm_take (n := n) pos (by rw [lens_sum P]; omega) n2 i).1
      have tk : ((laps f n).map List.length).take (i + 1) = ((laps f n).map List.length).take i ++ [(laps f n)[i].length] := by
        rw [List.take_add_one, List.getElem?_map, List.getElem?_eq_getElem il3]; rfl
      obtain ⟨y4, wi⟩ := period_inner (d := lcmL 1 (((laps f n).map List.length).take i)) (r := y) (x0 := some (dC f)) (x4 := x4) b1 (by rw [List.length_map]; exact lp.1) (by rw [List.length_map]; omega) G
      rw [List.length_map, ← lcmL_snoc, ← tk] at wi
      refine ⟨[some (dC f), some (dN (lcmL 1 (((laps f n).map List.length).take (i + 1)))), some (.ref y), some (dN (lcmL 1 (((laps f n).map List.length).take i))), y4], h', ?_, ⟨_, _, _, rfl⟩, rfl⟩
      show lb__law_period_1 [some (dC f), some (dN (lcmL 1 (((laps f n).map List.length).take i))), some (.ref y), x3, x4] h' = _
      unfold lb__law_period_1
      exact sqR (e1 := [some (dC f), some (dN (lcmL 1 (((laps f n).map List.length).take i))), some (.ref y), some (dN (lcmL 1 (((laps f n).map List.length).take i))), x4]) (h1 := h') (by simp) wi)
  rw [List.length_map, List.take_of_length_le (by rw [List.length_map, rl, List.length_map]; exact Nat.le_refl _)] at w2
  have e : c__law_period [dC f] h = gc h (.ok (dN (per f n)) h') := by
    show gc h (outS (m__law_period [some (dC f), none, none, none, none] h)) = _
    have key : m__law_period [some (dC f), none, none, none, none] h = .rt (dN (per f n)) h' := by
      unfold m__law_period
      refine sqR (e1 := [some (dC f), some (dN 1), none, none, none]) (h1 := h) (by simp [dN]) ?_
      refine sqR (e1 := [some (dC f), some (dN (per f n)), x2, x3, x4]) (h1 := h') ?_ (by simp)
      rw [sFor_val]
      have q : eCall (argn 1 c__law_laps) (lCons (eVar 0) lNil) [some (dC f), some (dN 1), none, none, none] h = .ok (.ref r) h' := by simp [w]
      rw [q, forV_ref, A.rf, forO_lst]
      exact w2
    rw [key]; rfl
  rw [e, hH, gc_app rfl]
end
end Law

set_option maxHeartbeats 1000000
/-! _law_described -/
namespace Law
open PySem Rf L2
section
variable {n : Nat} {f : List Nat}
theorem rows_ok (P : IsP n f) (b : Bool) : (cyRows b f n n).length ≤ n ∧ ∀ l ∈ cyRows b f n n, l.length ≤ n := ⟨cyRows_le, fun l hl => by
  unfold cyRows at hl
  exact (laps_pos P l (List.mem_filter.mp hl).1).2⟩
theorem al_cy (P : IsP n f) (hn : n ≤ 1000) (b : Bool) (h : AH) : c__law_alike [.tup ((cyRows b f n n).map dC), .tup ((cyRows b f n n).map dC)] h = .ok (.bl true) h :=
  alike (k := 2) (by omega) (al_rows (by have := (rows_ok P b).1; omega) fun l hl => by have := (rows_ok P b).2 l hl; omega) h
theorem tup_dC (L : List (List Nat)) : (L.map fun l => l.map dN).map D.tup = L.map dC := by rw [List.map_map]; rfl
theorem described_spec (P : IsP n f) (n1 : 1 ≤ n) (n2 : n ≤ 60) {h : AH} : c__law_described [dC f] h = .ok (.bl true) h := by
  obtain ⟨r, rs, g, w1, A⟩ := laps_spec P n1 (by omega) (h := h)
  have ll := lapsD_len (f := f) (n := n)
  have rl := A.len
  obtain ⟨H1, hH1⟩ : ∃ H, H = h ++ g := ⟨_, rfl⟩
  rw [← hH1] at w1 A
  obtain ⟨E, hE⟩ : ∃ E : List Nat, E = rs.filter fun x => decide (1 < lenO' H1[x]?) := ⟨_, rfl⟩
  have Ab := A.le (Nat.zero_le _)
  have A2 := Ab.filter (fun o => decide (1 < lenO' o)) (Nat.zero_le _)
  rw [← hE] at A2
  have lc1 : lc__law_described_1 [some (dC f), some (.ref r), none, none, none, none] H1 = .ok (.ref H1.length) (H1 ++ [.lst (E.map D.ref)]) := by
    unfold lc__law_described_1
    have z := eLc_pureL (φ := D.ref) (k := 3) (r := r) (mi := iVal (eVar 1)) (tt := eOp oGt (eCall cLen (lCons (eVar 3) lNil)) (eC (.int 1))) (te := eVar 3) (vs := [3]) (e := [some (dC f), some (.ref r), none, none, none, none]) (h := H1) (h1 := H1) rs (fun x => decide (1 < lenO' H1[x]?)) D.ref
      (by
        have := iVal_ref (m := eVar 1) (e := [some (dC f), some (.ref r), none, none, none, none]) (h := H1) (h1 := H1) (r := r) (ds := rs.map D.ref) (by simp) A.rf
        simpa using this) A.rf (by rw [sizeLine_eq]; omega) (fun x hx => by
          obtain ⟨c, e, _⟩ := A.lenAt hx
          have l0 : lenO' (some (.lst c)) = c.length := rfl
          have dq : decide ((1 : Int) < (c.length : Int)) = decide (1 < c.length) := by
            by_cases q : 1 < c.length
            · rw [decide_eq_true q, decide_eq_true (by omega)]
            · rw [decide_eq_false q, decide_eq_false (by omega)]
          rw [e, l0]
          generalize hb : decide (1 < c.length) = b at *
          simp [wipeE, e, dq]) (fun x hx => by simp [wipeE])
    rw [z, hE]
  obtain ⟨H2, hH2⟩ : ∃ H, H = H1 ++ [AO.lst (E.map D.ref)] := ⟨_, rfl⟩
  rw [← hH2] at lc1 A2
  have pp : ∀ c ∈ (laps f n).map (fun l => l.map dN), pures c = true := fun c hc => by
    obtain ⟨l, _, rfl⟩ := List.mem_map.mp hc
    exact pures_map fun _ _ => rfl
  have p1 := plain_spec A2 (Nat.le_trans (List.length_filter_le _ _) (by omega)) fun c hc => pp c (List.mem_filter.mp hc).1
  have e1 : ((laps f n).map fun l => l.map dN).filter (fun l => decide (1 < lenO' (some (.lst l)))) = (cyRows false f n n).map fun l => l.map dN := by
    rw [List.filter_map]
    unfold cyRows laps
    congr 1
    apply List.filter_congr
    intro l _
    simp [lenO', Function.comp]
  rw [e1, tup_dC] at p1
  have A3 : RA h.length H2 r rs ((laps f n).map fun l => l.map dN) := by rw [hH2]; exact A.app _
  have p2 := plain_spec A3 (by omega) pp
  have e2 : laps f n = cyRows true f n n := cyRows_true.symm
  rw [tup_dC, e2] at p2
  have co := fun b => cycles_of_spec P (by omega) b (h := H2)
  have al := fun b => al_cy P (by omega) b H2
  -- the lengths
  obtain ⟨H3, hH3⟩ : ∃ H, H = H2 ++ [AO.lst ((lens f n).map dN)] := ⟨_, rfl⟩
  have lc2 : ∀ x3 x4 : Option D, lc__law_described_2 [some (dC f), some (.ref r), some (.tup ((cyRows false f n n).map dC)), x3, x4, none] H2 = .ok (.ref H2.length) H3 := fun x3 x4 => by
    unfold lc__law_described_2
    have z := eLc_pureL (φ := D.ref) (k := 3) (r := r) (mi := iVal (eVar 1)) (tt := eC (.bl true)) (te := eCall cLen (lCons (eVar 3) lNil)) (vs := [3]) (e := [some (dC f), some (.ref r), some (.tup ((cyRows false f n n).map dC)), x3, x4, none]) (h := H2) (h1 := H2) rs (fun _ => true) (fun x => dN (lenO' H2[x]?))
      (by
        have := iVal_ref (m := eVar 1) (e := [some (dC f), some (.ref r), some (.tup ((cyRows false f n n).map dC)), x3, x4, none]) (h := H2) (h1 := H2) (r := r) (ds := rs.map D.ref) (by simp) A3.rf
        simpa using this) A3.rf (by rw [sizeLine_eq]; omega) (fun _ _ => rfl) (fun x hx => by
          obtain ⟨c, e, _⟩ := A3.lenAt hx
          have l0 : lenO' (some (.lst c)) = c.length := rfl
          rw [e, l0]
          simp [wipeE, e, dN])
    rw [z, List.filter_eq_self.mpr (by simp), hH3, A3.map (F := fun o => dN (lenO' o)), ← laps_lens P, List.map_map, List.map_map]
    congr 4
    apply List.map_congr_left
    intro l _
    simp [lenO', Function.comp]
  obtain ⟨S, sh, sp, su⟩ := shape_spec P (by omega) (h := h)
  have G3 : H3[H2.length]? = some (.lst ((lens f n).map dN)) := by rw [hH3]; simp
  obtain ⟨S', sr, sp', su'⟩ := cSortedR_N G3
  obtain rfl : S' = S := down_eq (sp'.trans sp.symm) su' su
  obtain ⟨H4, hH4⟩ : ∃ H, H = H3 ++ [AO.lst (S'.map dN)] := ⟨_, rfl⟩
  rw [← hH4] at sr
  have G4 : H4[H3.length]? = some (.lst (S'.map dN)) := by rw [hH4]; simp
  have sl : S'.length ≤ 1000 := by
    have := sp.length_eq
    rw [← laps_lens P, List.length_map] at this
    have := laps_len (f := f) (n := n)
    omega
  have al2 := alike (k := 1) (by omega) (al_row (l := S') (by omega)) H4
  have w5 := law_period_spec P n1 n2 (h := H4)
  have w6 := period_spec P n2 (h := H4)
  have al3 := alike (k := 0) (by omega) (al_N (k := 0) (x := per f n)) H4
  have w7 := sign_spec P n1 (by omega) (h := H4)
  have w8 := parity_spec P n1 (by omega) (h := H4)
  have al4 := alike (k := 0) (by omega) (al_I (k := 0) (x := sgn f n)) H4
  obtain ⟨G, hG⟩ : ∃ G, H4 = h ++ G := ⟨g ++ [.lst (E.map D.ref)] ++ [.lst ((lens f n).map dN)] ++ [.lst (S'.map dN)], by rw [hH4, hH3, hH2, hH1]; simp⟩
  have key : m__law_described [some (dC f), none, none, none, none, none] h = .rt (.bl true) H4 := by
    clear hH1 hH2 hH3 hH4 hG A2 Ab A A3 rl
    have co0 := co false
    have co1 := co true
    have al0 := al false
    have al1 := al true
    clear co al
    have shH := sh H4
    unfold m__law_described dC at *
    generalize (cyRows false f n n).map (fun c => D.tup (c.map dN)) = R0 at *
    generalize (cyRows true f n n).map (fun c => D.tup (c.map dN)) = R1 at *
    generalize f.map dN = fd at *
    generalize S'.map dN = Sd at *
    generalize (lens f n).map dN = Ld at *
    refine sqR (e1 := [some (.tup fd), some (.ref r), none, none, none, none]) (h1 := H1) (by simp [w1]) ?_
    refine sqR (e1 := [some (.tup fd), some (.ref r), some (.tup R0), none, none, none]) (h1 := H2) (by simp [lc1, p1]) ?_
    refine sqR (e1 := [some (.tup fd), some (.ref r), some (.tup R0), none, some (.bl true), none]) (h1 := H2) (by simp [permK, Cn.d, co0, al0]) ?_
    refine sqR (e1 := [some (.tup fd), some (.ref r), some (.tup R0), none, some (.bl true), none]) (h1 := H2) (by simp [permK, co1, p2, al1]) ?_
    refine sqR (e1 := [some (.tup fd), some (.ref r), some (.tup R0), none, some (.bl true), none]) (h1 := H2) (by simp [permK, co1, p2, al1]) ?_
    refine sqR (e1 := [some (.tup fd), some (.ref r), some (.tup R0), none, some (.bl true), some (.tup Sd)]) (h1 := H4) (by simp [lc2, eCallBK, sr, G4]) ?_
    refine sqR (e1 := [some (.tup fd), some (.ref r), some (.tup R0), none, some (.bl true), some (.tup Sd)]) (h1 := H4) (by simp [permK, shH, al2]) ?_
    refine sqR (e1 := [some (.tup fd), some (.ref r), some (.tup R0), none, some (.bl true), some (dN (per f n))]) (h1 := H4) (by simp [w5]) ?_
    refine sqR (e1 := [some (.tup fd), some (.ref r), some (.tup R0), none, some (.bl true), some (dN (per f n))]) (h1 := H4) (by simp [permK, w6, al3]) ?_
    simp [w7, w8, al4]
  show gc h (outS (m__law_described [some (dC f), none, none, none, none, none] h)) = _
  rw [key]
  show gc h (.ok (.bl true) H4) = _
  rw [hG, gc_app rfl]
end
end Law

set_option maxHeartbeats 1000000
/-! the sign of a product: exchanging two images changes the number of cycles by one -/
namespace Law
open PySem Rf L2
def swp (row : List Nat) (i j : Nat) : List Nat := (row.set i (row.getD j 0)).set j (row.getD i 0)
noncomputable def nH (p : List Nat) (n : Nat) : Nat := (heads [p] n n).length
section
variable {n : Nat} {p q : List Nat} {a b : Nat}
theorem swp_at (P : IsP n p) (ha : a < n) (hb : b < n) (x : Nat) : (swp p a b).getD x 0 = if b = x then p.getD a 0 else if a = x then p.getD b 0 else p.getD x 0 := by
  unfold swp
  rw [getD_set (by simp [P.len]; exact hb), getD_set (by rw [P.len]; exact ha)]
theorem swp_isP (P : IsP n p) (ha : a < n) (hb : b < n) : IsP n (swp p a b) := P.swap ha hb
theorem swp_swp (P : IsP n p) (ha : a < n) (hb : b < n) : swp (swp p a b) a b = p := by
  have Q := swp_isP P ha hb
  refine ext_getD (by simp [swp]) fun x _ => ?_
  rw [swp_at Q ha hb, swp_at P ha hb, swp_at P ha hb, swp_at P ha hb]
  by_cases h1 : b = x
  · subst h1
    by_cases h2 : b = a
    · subst h2; simp
    · simp [h2]
  · by_cases h2 : a = x
    · subst h2; simp [h1]
    · simp [h1, h2]
theorem swp_link (P : IsP n p) (ha : a < n) (hb : b < n) (no : ¬ Rch [p] a b) : Rch [swp p a b] a b := by
  have C := cyc_cy P hb
  generalize cyc p b = c at *
  have at_ := swp_at P ha hb
  have ne : ¬ b = a := fun e => no (e ▸ .refl)
  have nb : ∀ k, 0 < k → k < c.length → c.getD k 0 ≠ b := fun k h1 h2 e => by
    have := nodup_getD C.nd h2 C.pos (e.trans C.hd.symm)
    omega
  have na : ∀ k, k < c.length → c.getD k 0 ≠ a := fun k h2 e => by
    have r := C.toPa.rch k h2
    rw [e] at r
    exact no (r.symm (one_P P) hb)
  have s0 : Rch [swp p a b] a (p.getD b 0) := by
    have := rch_one (f := swp p a b) (x := a) (y := a) .refl
    rwa [at_ a, if_neg ne, if_pos rfl] at this
  have st : ∀ k, 0 < k → k < c.length → Rch [swp p a b] a (c.getD k 0) := by
    intro k
    induction k with
    | zero => intro h; omega
    | succ k ih =>
      intro _ h2
      by_cases k0 : k = 0
      · subst k0
        rw [← C.nx 0 h2, C.hd]; exact s0
      · have := rch_one (ih (by omega) (by omega))
        rwa [at_, if_neg (Ne.symm (nb k (by omega) (by omega))), if_neg (Ne.symm (na k (by omega))), C.nx k h2] at this
  by_cases L1 : c.length = 1
  · have := C.cl
    rw [L1, show 1 - 1 = 0 by omega, C.hd] at this
    rwa [this] at s0
  · have p0 := C.pos
    have := rch_one (st (c.length - 1) (by omega) (by omega))
    rwa [at_, if_neg (Ne.symm (nb _ (by omega) (by omega))), if_neg (Ne.symm (na _ (by omega))), C.cl] at this
theorem swp_keep (P : IsP n p) (ha : a < n) (hb : b < n) (no : ¬ Rch [p] a b) {x y : Nat} (r : Rch [p] x y) : Rch [swp p a b] x y := by
  have Q := swp_isP P ha hb
  have l := swp_link P ha hb no
  have l2 := l.symm (one_P Q) ha
  have at_ := swp_at P ha hb
  have ne : ¬ b = a := fun e => no (e ▸ .refl)
  induction r with
  | refl => exact .refl
  | @step y _ r hp ih =>
    rw [List.mem_singleton] at hp
    rw [hp]
    by_cases h1 : b = y
    · subst h1
      have := rch_one (f := swp p a b) (x := a) (y := a) .refl
      rw [at_ a, if_neg ne, if_pos rfl] at this
      exact (ih.trans l2).trans this
    · by_cases h2 : a = y
      · subst h2
        have := rch_one (f := swp p a b) (x := b) (y := b) .refl
        rw [at_ b, if_pos rfl] at this
        exact (ih.trans l).trans this
      · have := rch_one ih
        rwa [at_, if_neg h1, if_neg h2] at this
theorem swp_back (P : IsP n p) (ha : a < n) (hb : b < n) (no : ¬ Rch [p] a b) {x y : Nat} (r : Rch [swp p a b] x y) : Rch [p] x y ∨ (Rch [p] x a ∧ Rch [p] b y) ∨ (Rch [p] x b ∧ Rch [p] a y) := by
  have at_ := swp_at P ha hb
  have no2 : ¬ Rch [p] b a := fun r => no (r.symm (one_P P) hb)
  induction r with
  | refl => exact .inl .refl
  | @step y _ r hp ih =>
    rw [List.mem_singleton] at hp
    rw [hp]
    rw [at_]
    by_cases h1 : b = y
    · subst h1
      rw [if_pos rfl]
      rcases ih with i | ⟨i, j⟩ | ⟨i, j⟩
      · exact .inr (.inr ⟨i, rch_one .refl⟩)
      · exact .inl (rch_one i)
      · exact absurd j no
    · rw [if_neg h1]
      by_cases h2 : a = y
      · subst h2
        rw [if_pos rfl]
        rcases ih with i | ⟨i, j⟩ | ⟨i, j⟩
        · exact .inr (.inl ⟨i, rch_one .refl⟩)
        · exact absurd j no2
        · exact .inl (rch_one i)
      · rw [if_neg h2]
        rcases ih with i | ⟨i, j⟩ | ⟨i, j⟩
        · exact .inl (rch_one i)
        · exact .inr (.inl ⟨i, rch_one j⟩)
        · exact .inr (.inr ⟨i, rch_one j⟩)
theorem hd_eq (P : IsP n p) {x y : Nat} (hx : x < n) (hy : y < n) (h1 : Hd [p] x) (h2 : Hd [p] y) (r : Rch [p] x y) : x = y := by
  rcases Nat.lt_trichotomy x y with z | z | z
  · exact absurd r (h2 x z)
  · exact z
  · exact absurd (r.symm (one_P P) hx) (h1 y z)
theorem hd_le (P : IsP n p) {x y : Nat} (hx : x < n) (h1 : Hd [p] x) (r : Rch [p] x y) : x ≤ y :=
  Nat.le_of_not_lt fun z => h1 y z (r.symm (one_P P) hx)
theorem swp_merge (P : IsP n p) (ha : a < n) (hb : b < n) (no : ¬ Rch [p] a b) : nH (swp p a b) n + 1 = nH p n := by
  have Q := swp_isP P ha hb
  obtain ⟨u, u1, u2, u3⟩ := head_ex (one_P P) ha
  obtain ⟨v, v1, v2, v3⟩ := head_ex (one_P P) hb
  have un : u < n := by omega
  have vn : v < n := by omega
  have uv : u ≠ v := fun e => by
    subst e
    exact no ((u3.symm (one_P P) un).trans v3)
  have l := swp_link P ha hb no
  have ruv : Rch [swp p a b] u v := ((swp_keep P ha hb no u3).trans l).trans (swp_keep P ha hb no (v3.symm (one_P P) vn))
  obtain ⟨M, hM⟩ : ∃ M, M = max u v := ⟨_, rfl⟩
  have Mn : M < n := by omega
  have iff : ∀ x, x < n → (Hd [swp p a b] x ↔ Hd [p] x ∧ x ≠ M) := fun x hx => by
    constructor
    · intro h
      refine ⟨fun z hz r => h z hz (swp_keep P ha hb no r), fun e => ?_⟩
      by_cases c : u < v
      · have : M = v := by omega
        subst e; rw [this] at h
        exact h u c ruv
      · have : M = u := by omega
        subst e; rw [this] at h
        exact h v (by omega) (ruv.symm (one_P Q) un)
    · rintro ⟨h, ne⟩ z hz r
      rcases swp_back P ha hb no r with i | ⟨i, j⟩ | ⟨i, j⟩
      · exact h z hz i
      · have e : v = x := hd_eq P vn hx v2 h (v3.trans j)
        have le : u ≤ z := hd_le P un u2 (u3.trans (i.symm (one_P P) (by omega)))
        omega
      · have e : u = x := hd_eq P un hx u2 h (u3.trans j)
        have le : v ≤ z := hd_le P vn v2 (v3.trans (i.symm (one_P P) (by omega)))
        omega
  have MH : Hd [p] M := by
    by_cases c : u < v
    · rw [hM, Nat.max_eq_right (by omega)]; exact v2
    · rw [hM, Nat.max_eq_left (by omega)]; exact u2
  have pm : (M :: heads [swp p a b] n n).Perm (heads [p] n n) := by
    refine (List.perm_ext_iff_of_nodup (List.nodup_cons.mpr ⟨fun h => ?_, heads_nodup⟩) heads_nodup).mpr fun x => ?_
    · exact ((iff M Mn).mp (mem_heads.mp h).2).2 rfl
    · rw [List.mem_cons, mem_heads, mem_heads]
      constructor
      · rintro (rfl | ⟨h1, h2⟩)
        · exact ⟨Mn, MH⟩
        · exact ⟨h1, ((iff x h1).mp h2).1⟩
      · rintro ⟨h1, h2⟩
        by_cases e : x = M
        · exact .inl e
        · exact .inr ⟨h1, (iff x h1).mpr ⟨h2, e⟩⟩
  have := pm.length_eq
  rw [List.length_cons] at this
  exact this
theorem swp_split (P : IsP n p) (ha : a < n) (hb : b < n) (ne : a ≠ b) (yes : Rch [p] a b) : ¬ Rch [swp p a b] a b := by
  have Q := swp_isP P ha hb
  have C := cyc_cy P ha
  obtain ⟨k, hk, ek⟩ := mem_getD (d := 0) (C.mem.mpr yes)
  generalize cyc p a = c at *
  have k0 : 0 < k := Nat.pos_of_ne_zero fun e => ne (by rw [← ek, e, C.hd])
  have at_ := swp_at P ha hb
  have key : ∀ y, Rch [swp p a b] b y → ∃ j, 0 < j ∧ j ≤ k ∧ y = c.getD j 0 := by
    intro y r
    induction r with
    | refl => exact ⟨k, k0, Nat.le_refl _, ek.symm⟩
    | @step y _ r hp ih =>
      rw [List.mem_singleton] at hp
      rw [hp]
      obtain ⟨j, j1, j2, rfl⟩ := ih
      rw [at_]
      by_cases e : j = k
      · rw [e, ek, if_pos rfl]
        refine ⟨1, by omega, by omega, ?_⟩
        rw [← C.nx 0 (by omega), C.hd]
      · have n1 : ¬ b = c.getD j 0 := fun z => by
          have := nodup_getD C.nd (by omega : j < c.length) hk (z.symm.trans ek.symm)
          omega
        have n2 : ¬ a = c.getD j 0 := fun z => by
          have := nodup_getD C.nd (by omega : j < c.length) C.pos (z.symm.trans C.hd.symm)
          omega
        rw [if_neg n1, if_neg n2]
        exact ⟨j + 1, by omega, by omega, C.nx j (by omega)⟩
  intro r
  obtain ⟨j, j1, j2, e⟩ := key a (r.symm (one_P Q) ha)
  have := nodup_getD C.nd (by omega : j < c.length) C.pos (e.symm.trans C.hd.symm)
  omega
theorem swp_flip (P : IsP n p) (ha : a < n) (hb : b < n) (ne : a ≠ b) : nH (swp p a b) n + 1 = nH p n ∨ nH p n + 1 = nH (swp p a b) n := by
  by_cases r : Rch [p] a b
  · right
    have := swp_merge (swp_isP P ha hb) ha hb (swp_split P ha hb ne r)
    rwa [swp_swp P ha hb] at this
  · exact .inl (swp_merge P ha hb r)
theorem nH_id : nH (List.range n) n = n := by
  unfold nH heads
  rw [List.filter_eq_self.mpr fun x hx => ?_, List.length_range]
  rw [List.mem_range] at hx
  refine @decide_eq_true _ (Classical.propDecidable _) fun z hz r => ?_
  have : ∀ y, Rch [List.range n] z y → y = z := by
    intro y r
    induction r with
    | refl => rfl
    | @step y _ r hp ih =>
      rw [List.mem_singleton] at hp
      rw [hp]
      rw [ih, range_D (by omega)]
  have := this x r
  omega
theorem mulP_swp (P : IsP n p) (Q : IsP n q) (ha : a < n) (hb : b < n) : mulP (swp p a b) q = swp (mulP p q) a b := by
  have lp := P.len
  refine ext_getD (by simp [mulP, swp]) fun x hx => ?_
  have hx : x < n := by simpa [mulP, swp, lp] using hx
  rw [mulP_at (by simp [swp, lp]; exact hx), swp_at (mulP_isP P Q) ha hb, swp_at P ha hb, mulP_at (by omega), mulP_at (by omega), mulP_at (by omega)]
  split
  · rfl
  · split <;> rfl
theorem par_mul (Q : IsP n q) : ∀ (m : Nat), m ≤ n → ∀ p : List Nat, IsP n p → (∀ k, k < n - m → p.getD k 0 = k) → (nH (mulP p q) n + n + nH p n + nH q n) % 2 = 0 := by
  intro m
  induction m with
  | zero =>
    intro _ p P fx
    have e : p = List.range n := ext_getD (by simp [P.len]) fun i hi => by
      rw [P.len] at hi
      rw [fx i (by omega), range_D hi]
    have e2 : mulP p q = q := ext_getD (by rw [mulP_len, P.len, Q.len]) fun i hi => by
      rw [mulP_len, P.len] at hi
      rw [mulP_at (by rw [P.len]; exact hi), fx i (by omega)]
    rw [e2, e, nH_id]
    omega
  | succ m ih =>
    intro hm p P fx
    obtain ⟨k, hk⟩ : ∃ k, k = n - (m + 1) := ⟨_, rfl⟩
    rw [← hk] at fx
    by_cases e : p.getD k 0 = k
    · exact ih (by omega) p P fun j hj => by
        by_cases z : j = k
        · rw [z]; exact e
        · exact fx j (by omega)
    · obtain ⟨j, hj, ej⟩ := P.surj (y := k) (by omega)
      have jk : k ≠ j := fun z => e (by rw [z]; rw [z] at ej; exact ej)
      have kn : k < n := by omega
      have P' := swp_isP P kn hj
      have at_ := swp_at P kn hj
      have h := ih (by omega) (swp p k j) P' fun i hi => by
        rw [at_]
        by_cases z : j = i
        · subst z
          exact absurd (fx j (by omega)) (by rw [ej]; exact jk)
        · rw [if_neg z]
          by_cases z2 : k = i
          · rw [if_pos z2, ej, z2]
          · rw [if_neg z2]; exact fx i (by omega)
      rw [mulP_swp P Q kn hj] at h
      have f1 := swp_flip P kn hj jk
      have f2 := swp_flip (mulP_isP P Q) kn hj jk
      omega
theorem odd_sum : ∀ ls : List Nat, (ls.sum + ls.length + (ls.filter fun x => x % 2 == 0).length) % 2 = 0
  | [] => rfl
  | x :: ls => by
    have ih := odd_sum ls
    rw [List.sum_cons, List.length_cons, List.filter_cons]
    by_cases q : x % 2 = 0
    · rw [if_pos (by simpa using q), List.length_cons]; omega
    · rw [if_neg (by simpa using q)]; omega
theorem evens_par (P : IsP n p) : (n + nH p n + evens p n) % 2 = 0 := by
  have h := odd_sum ((laps p n).map List.length)
  rw [lens_sum P, List.length_map, List.filter_map, List.length_map] at h
  have e : (laps p n).length = nH p n := by unfold laps nH; rw [List.length_map]
  rw [e] at h
  exact h
theorem sgn_mul (P : IsP n p) (Q : IsP n q) : sgn p n * sgn q n = sgn (mulP p q) n := by
  have a := evens_par P
  have b := evens_par Q
  have c := evens_par (mulP_isP P Q)
  have d := par_mul Q n (Nat.le_refl _) p P fun k hk => by omega
  have e : evens (mulP p q) n % 2 = (evens p n + evens q n) % 2 := by omega
  unfold sgn
  rw [e]
  have u : evens p n % 2 = 0 ∨ evens p n % 2 = 1 := by omega
  have v : evens q n % 2 = 0 ∨ evens q n % 2 = 1 := by omega
  rcases u with u | u <;> rcases v with v | v
  · rw [Nat.add_mod, u, v]; rfl
  · rw [Nat.add_mod, u, v]; rfl
  · rw [Nat.add_mod, u, v]; rfl
  · rw [Nat.add_mod, u, v]; rfl
end
end Law

set_option maxHeartbeats 1000000
/-! odd values; _are_cycles -/
namespace Law
open PySem Rf L2
def B0 : D → Prop
  | .non => True
  | .bl _ => True
  | .int _ => True
  | .str _ => True
  | _ => False
/-- a value that an odd row of labels may hold; an odd row of labels -/
def V0 (d : D) : Prop := B0 d ∨ ∃ ws, d = .tup ws ∧ pures ws = true
def Vd (d : D) : Prop := B0 d ∨ ∃ vs, d = .tup vs ∧ vs.length ≤ 1000 ∧ ∀ v ∈ vs, V0 v
theorem V0.pure {d : D} (w : V0 d) : d.pure = true := by
  rcases w with w | ⟨ws, rfl, h⟩
  · cases d <;> first | exact w.elim | rfl
  · exact h
def isI : D → Bool
  | .int _ => true
  | _ => false
theorem whole_V {w : D} (hw : V0 w) {h : AH} : c_is_whole [w] h = .ok (.bl (isI w)) h := by
  rcases hw with hw | ⟨ws, rfl, _⟩
  · cases w <;> first | exact hw.elim | (unfold c_is_whole fsem; simp [m_is_whole, isI])
  · unfold c_is_whole fsem; simp [m_is_whole, isI]
theorem index_V {w : D} (hw : V0 w) {n : Nat} {h : AH} : c_is_index [w, .int (n : Int)] h = .ok (.bl (idx n w).isSome) h := by
  have e1 := fun h => whole_V hw (h := h)
  cases w with
  | int i =>
    have e : c_is_index [.int i, .int (n : Int)] h = gc h (.ok (.bl (decide (0 ≤ i ∧ i < (n : Int)))) h) := by
      unfold c_is_index fsem
      by_cases q : 0 ≤ i <;> simp [m_is_index, e1, q, isI]
    rw [e, gc_same rfl]
    simp only [idx]
    by_cases q : 0 ≤ i ∧ i < (n : Int)
    · simp [q]
    · rw [if_neg q, decide_eq_false q]; rfl
  | _ =>
    unfold c_is_index fsem
    simp [m_is_index, e1, idx, isI]
theorem dN_inj : ∀ {a b : List Nat}, a.map dN = b.map dN → a = b
  | [], [], _ => rfl
  | [], _ :: _, e => by simp at e
  | _ :: _, [], e => by simp at e
  | x :: a, y :: b, e => by
    rw [List.map_cons, List.map_cons] at e
    injection e with e1 e2
    injection e1 with e1
    rw [dN_inj e2, Int.ofNat.inj e1]

/-- cycles as a value -/
def OkC (n : Nat) (P : List (List Nat)) : Prop := (∀ l ∈ P, l ≠ []) ∧ P.flatten.Nodup ∧ ∀ x ∈ P.flatten, x < n
def VaC (n : Nat) (cs : List D) : Prop := ∃ P : List (List Nat), cs = P.map dC ∧ OkC n P
theorem dC_inj : ∀ {a b : List (List Nat)}, a.map dC = b.map dC → a = b
  | [], [], _ => rfl
  | [], _ :: _, e => by simp at e
  | _ :: _, [], e => by simp at e
  | x :: a, y :: b, e => by
    rw [List.map_cons, List.map_cons] at e
    injection e with e1 e2
    unfold dC at e1
    injection e1 with e1
    rw [dC_inj e2, dN_inj e1]
/-- the points of one cycle -/
theorem cycle_inner {n : Nat} {q : Nat} {T : List Nat} {ws : List D} (hw : ∀ w ∈ ws, V0 w) {x0 x4 x5 : Option D} {h g : AH} (hq : q < h.length) :
    (∃ (x5' : Option D) (M : List Nat), sFor (iVal (eVar 4)) (gVar 5) lb__are_cycles_2 [x0, some (dN n), some (.ref q), none, some (.tup ws), x5] (h.set q (.lst (kn n T)) ++ g) = .nx [x0, some (dN n), some (.ref q), none, some (.tup ws), x5'] (h.set q (.lst (kn n (T ++ M))) ++ g) ∧
      ws = M.map dN ∧ M.Nodup ∧ (∀ x ∈ M, x ∉ T) ∧ ∀ x ∈ M, x < n) ∨
    (∃ (S : List Nat) , sFor (iVal (eVar 4)) (gVar 5) lb__are_cycles_2 [x0, some (dN n), some (.ref q), none, some (.tup ws), x5] (h.set q (.lst (kn n T)) ++ g) = .rt (.bl false) (h.set q (.lst (kn n S)) ++ g) ∧
      ∀ l : List Nat, ws = l.map dN → ¬ (l.Nodup ∧ (∀ x ∈ l, x ∉ T) ∧ ∀ x ∈ l, x < n)) := by
  have hl : ∀ o : AO, (h.set q o).length = h.length := fun o => by simp
  have G : ∀ o : AO, (h.set q o ++ g)[q]? = some o := fun o => by rw [List.getElem?_append_left (by rw [hl]; exact hq), List.getElem?_set_self hq]
  have S : ∀ o o' : AO, (h.set q o ++ g).set q o' = h.set q o' ++ g := fun o o' => by rw [List.set_append_left _ _ (by rw [hl]; exact hq), List.set_set]
  rcases loopM_ret (k := 5) (φ := id) (b := lb__are_cycles_2)
    (fun i e h' => ∃ (x5 : Option D) (M : List Nat), e = [x0, some (dN n), some (.ref q), none, some (.tup ws), x5] ∧ h' = h.set q (.lst (kn n (T ++ M))) ++ g ∧ ws.take i = M.map dN ∧ M.length = i ∧ M.Nodup ∧ (∀ x ∈ M, x ∉ T) ∧ ∀ x ∈ M, x < n)
    (fun d h' => d = .bl false ∧ (∃ S : List Nat, h' = h.set q (.lst (kn n S)) ++ g) ∧ ∀ l : List Nat, ws = l.map dN → ¬ (l.Nodup ∧ (∀ x ∈ l, x ∉ T) ∧ ∀ x ∈ l, x < n))
    ws (e := [x0, some (dN n), some (.ref q), none, some (.tup ws), x5]) (h := h.set q (.lst (kn n T)) ++ g) ⟨x5, [], rfl, by simp, rfl, rfl, by simp, by simp, by simp⟩ (by
      rintro i w e h' hi ⟨x5, M, rfl, rfl, eM, lM, nd, nT, lt⟩
      have il := (List.getElem?_eq_some_iff.mp hi).1
      have iv := index_V (hw w (List.mem_of_getElem? hi)) (n := n) (h := h.set q (.lst (kn n (T ++ M))) ++ g)
      have tl : ∀ l : List Nat, ws = l.map dN → ∃ x, l[i]? = some x ∧ w = dN x ∧ l.take i = M := fun l e => by
        rw [e, List.getElem?_map] at hi
        obtain ⟨x, hx, ex⟩ := Option.map_eq_some_iff.mp hi
        exact ⟨x, hx, ex.symm, dN_inj (by rw [← eM, e, List.map_take])⟩
      cases q1 : idx n w with
      | none =>
        rw [q1] at iv
        refine .inr ⟨.bl false, _, ?_, rfl, ⟨T ++ M, rfl⟩, fun l e ⟨_, _, l3⟩ => ?_⟩
        · simp only [dN] at iv ⊢
          simp [lb__are_cycles_2, iv]
        · obtain ⟨x, hx, rfl, _⟩ := tl l e
          have hxn : x < n := l3 x (List.mem_of_getElem? hx)
          simp [idx, dN, hxn] at q1
      | some x =>
        obtain ⟨rfl, hx⟩ := idx_some q1
        rw [q1] at iv
        have kx := kn_at (L := T ++ M) hx
        by_cases c : x ∈ T ++ M
        · refine .inr ⟨.bl false, _, ?_, rfl, ⟨T ++ M, rfl⟩, fun l e ⟨l1, l2, l3⟩ => ?_⟩
          · rw [decide_eq_true c] at kx
            simp only [dN] at iv ⊢
            simp [lb__are_cycles_2, iv, G, kx]
          · obtain ⟨y, hy, ey, tk⟩ := tl l e
            have ey : x = y := by injection ey with ey; omega
            subst ey
            rcases List.mem_append.mp c with z | z
            · exact l2 x (List.mem_of_getElem? hy) z
            · rw [← tk] at z
              obtain ⟨j, hj, ej⟩ := List.mem_iff_getElem.mp z
              rw [List.getElem_take] at ej
              rw [List.length_take] at hj
              have := (List.getElem?_eq_some_iff.mp hy).2
              have := (List.getElem_inj l1).mp (ej.trans this.symm)
              omega
        · have kp : ∀ H : AH, putO (some (.lst (kn n (T ++ M)))) q (x : Int) (.bl true) H = some (H.set q (.lst (kn n (T ++ (M ++ [x]))))) := fun H => by rw [kn_put hx, List.append_assoc]
          refine .inl ⟨[x0, some (dN n), some (.ref q), none, some (.tup ws), some (dN x)], h.set q (.lst (kn n (T ++ (M ++ [x])))) ++ g, ?_, some (dN x), M ++ [x], rfl, rfl, ?_, by simp [lM], ?_, ?_, ?_⟩
          · rw [decide_eq_false c] at kx
            simp only [dN] at iv ⊢
            simp [lb__are_cycles_2, iv, G, kx, kp, S]
          · rw [List.take_add_one, eM, hi]; simp
          · exact List.nodup_append.mpr ⟨nd, by simp, fun a ha b hb => by rw [List.mem_singleton] at hb; subst hb; exact fun e => c (List.mem_append_right _ (e ▸ ha))⟩
          · intro y hy
            rcases List.mem_append.mp hy with z | z
            · exact nT y z
            · rw [List.mem_singleton] at z; subst z; exact fun e => c (List.mem_append_left _ e)
          · intro y hy
            rcases List.mem_append.mp hy with z | z
            · exact lt y z
            · rw [List.mem_singleton] at z; subst z; exact hx) with ⟨e', h', w, x5', M, rfl, rfl, eM, lM, nd, nT, lt⟩ | ⟨d, h', w, rfl, ⟨S', rfl⟩, no⟩
  · rw [List.take_length] at eM
    refine .inl ⟨x5', M, ?_, eM, nd, nT, lt⟩
    rw [sFor_val]
    simp only [eVar_, List.getElem?_cons_zero, List.getElem?_cons_succ, forV_tup]
    rw [List.map_id] at w
    exact w
  · refine .inr ⟨S', ?_, no⟩
    rw [sFor_val]
    simp only [eVar_, List.getElem?_cons_zero, List.getElem?_cons_succ, forV_tup]
    rw [List.map_id] at w
    exact w
end Law

set_option maxHeartbeats 1000000
/-! _are_cycles -/
namespace Law
open PySem Rf L2
theorem are_flat {d : D} (w : B0 d) {n : Nat} {h : AH} : c__are_cycles [d, dN n] h = .ok (.bl false) h := by
  have e : c__are_cycles [d, dN n] h = gc h (.ok (.bl false) h) := by
    cases d <;> first | exact w.elim | (unfold c__are_cycles fsem; simp [m__are_cycles])
  rw [e, gc_same rfl]
theorem flat_take {P : List (List Nat)} {i : Nat} {l : List Nat} (h : P[i]? = some l) : ∃ R, P.flatten = (P.take i).flatten ++ l ++ R := by
  obtain ⟨hi, e⟩ := List.getElem?_eq_some_iff.mp h
  refine ⟨(P.drop (i + 1)).flatten, ?_⟩
  conv => lhs; rw [← List.take_append_drop i P, List.drop_eq_getElem_cons hi, e]
  rw [List.flatten_append, List.flatten_cons, List.append_assoc]
theorem are_tup {cs : List D} (hw : ∀ c ∈ cs, Vd c) {n : Nat} (hn : n ≤ 1000) {h : AH} : ∃ b, c__are_cycles [.tup cs, dN n] h = .ok (.bl b) h ∧ (b = true ↔ VaC n cs) := by
  obtain ⟨H0, hH0⟩ : ∃ H0 : AH, H0 = h ++ [.lst (kn n [])] := ⟨_, rfl⟩
  have ql : h.length < H0.length := by rw [hH0]; simp
  have S0 : ∀ o : AO, H0.set h.length o = h ++ [o] := fun o => by rw [hH0]; simp
  have lc : lc__are_cycles_1 [some (.tup cs), some (dN n), none, none, none, none] h = .ok (.ref h.length) H0 := by
    unfold lc__are_cycles_1
    have z := eLc_map (φ := dN) (k := 3) (mi := iRange1 (lCons (eVar 1) lNil)) (te := eC (.bl false)) (vs := [3]) (e := [some (.tup cs), some (dN n), none, none, none, none]) (h := h) (h1 := h) (List.range n) (fun _ => D.bl false) (iRange1_nat (n := n) (by simp [dN]) (by omega)) (by rw [List.length_range, sizeLine_eq]; omega) fun _ _ => rfl
    rw [z, hH0]
    simp [kn]
  have st : ∀ r, m__are_cycles [some (.tup cs), some (dN n), none, none, none, none] h = r → c__are_cycles [.tup cs, dN n] h = gc h (outS r) := fun r e => by rw [← e]; rfl
  have pre : m__are_cycles [some (.tup cs), some (dN n), none, none, none, none] h = (sSeq (sFor (iVal (eVar 0)) (gVar 4) lb__are_cycles_1) (sRet (eC (.bl true)))) [some (.tup cs), some (dN n), some (.ref h.length), none, none, none] H0 := by
    unfold m__are_cycles
    refine sqR (e1 := [some (.tup cs), some (dN n), none, none, none, none]) (h1 := h) (by simp) ?_
    exact sqR (e1 := [some (.tup cs), some (dN n), some (.ref h.length), none, none, none]) (h1 := H0) (by rw [sSet_, lc]; rfl) rfl
  rcases loopM_ret (k := 4) (φ := id) (b := lb__are_cycles_1)
    (fun i e h' => ∃ (x4 x5 : Option D) (P : List (List Nat)), e = [some (.tup cs), some (dN n), some (.ref h.length), none, x4, x5] ∧ h' = H0.set h.length (.lst (kn n P.flatten)) ++ [] ∧ cs.take i = P.map dC ∧ P.length = i ∧ OkC n P)
    (fun d h' => d = .bl false ∧ (∃ S : List Nat, h' = H0.set h.length (.lst (kn n S)) ++ []) ∧ ¬ VaC n cs)
    cs (e := [some (.tup cs), some (dN n), some (.ref h.length), none, none, none]) (h := H0) ⟨none, none, [], rfl, by rw [List.append_nil, S0, hH0]; rfl, rfl, rfl, by simp, by simp, by simp⟩ (by
      rintro i c e h' hi ⟨x4, x5, P, rfl, rfl, eP, lP, ok1, ok2, ok3⟩
      have tl : ∀ P' : List (List Nat), cs = P'.map dC → ∃ l, P'[i]? = some l ∧ c = dC l ∧ P'.take i = P := fun P' e => by
        rw [e, List.getElem?_map] at hi
        obtain ⟨x, hx, ex⟩ := Option.map_eq_some_iff.mp hi
        exact ⟨x, hx, ex.symm, dC_inj (by rw [← eP, e, List.map_take])⟩
      rcases hw c (List.mem_of_getElem? hi) with c0 | ⟨ws, rfl, wl, hws⟩
      · refine .inr ⟨.bl false, _, ?_, rfl, ⟨P.flatten, rfl⟩, fun ⟨P', e, _⟩ => ?_⟩
        · generalize H0.set h.length (.lst (kn n P.flatten)) ++ [] = H1
          cases c <;> first | exact c0.elim | simp [lb__are_cycles_1]
        · obtain ⟨l, _, rfl, _⟩ := tl P' e
          exact c0
      · by_cases z : ws = []
        · subst z
          refine .inr ⟨.bl false, _, ?_, rfl, ⟨P.flatten, rfl⟩, fun ⟨P', e, o1, _⟩ => ?_⟩
          · generalize H0.set h.length (.lst (kn n P.flatten)) ++ [] = H1
            simp [lb__are_cycles_1]
          · obtain ⟨l, hl, el, _⟩ := tl P' e
            unfold dC at el
            injection el with el
            exact o1 l (List.mem_of_getElem? hl) (by cases l with
              | nil => rfl
              | cons _ _ => simp at el)
        · have wz : ¬ (ws.length : Int) = 0 := by
            have := List.length_pos_iff.mpr z
            omega
          have s1 : ∀ (H : AH), sIf (eOr (eNot (eUn oTruth (eCall cIsi (lCons (eVar 4) (lCons (eC (.ty "tuple")) lNil))))) (eOp oEq (eCall cLen (lCons (eVar 4) lNil)) (eC (.int 0))))
              (sRet (eC (.bl false))) sPass [some (.tup cs), some (dN n), some (.ref h.length), none, some (.tup ws), x5] H = .nx [some (.tup cs), some (dN n), some (.ref h.length), none, some (.tup ws), x5] H := fun H => by simp [z, wz]
          rcases cycle_inner (n := n) (q := h.length) (T := P.flatten) (ws := ws) hws (x0 := some (.tup cs)) (x4 := none) (x5 := x5) (h := H0) (g := []) ql with ⟨x5', M, w, eM, nd, nT, lt⟩ | ⟨S, w, no⟩
          · have Mn : M ≠ [] := fun e => z (by rw [eM, e]; rfl)
            refine .inl ⟨[some (.tup cs), some (dN n), some (.ref h.length), none, some (.tup ws), x5'], H0.set h.length (.lst (kn n (P.flatten ++ M))) ++ [], ?_, some (.tup ws), x5', P ++ [M], rfl, ?_, ?_, by simp [lP], ?_, ?_, ?_⟩
            · show lb__are_cycles_1 [some (.tup cs), some (dN n), some (.ref h.length), none, some (.tup ws), x5] _ = _
              unfold lb__are_cycles_1
              exact sqR (s1 _) w
            · rw [List.flatten_append]; simp
            · rw [List.take_add_one, eP, hi, List.map_append]
              simp only [Option.toList_some, List.map_cons, List.map_nil]
              rw [eM]; rfl
            · intro l hl
              rcases List.mem_append.mp hl with y | y
              · exact ok1 l y
              · rw [List.mem_singleton] at y; subst y; exact Mn
            · rw [List.flatten_append]
              simp only [List.flatten_cons, List.flatten_nil, List.append_nil]
              exact List.nodup_append.mpr ⟨ok2, nd, fun a ha b hb e => nT b hb (e ▸ ha)⟩
            · intro x hx
              rw [List.flatten_append] at hx
              simp only [List.flatten_cons, List.flatten_nil, List.append_nil] at hx
              rcases List.mem_append.mp hx with y | y
              · exact ok3 x y
              · exact lt x y
          · refine .inr ⟨.bl false, H0.set h.length (.lst (kn n S)) ++ [], ?_, rfl, ⟨S, rfl⟩, fun ⟨P', e, o1, o2, o3⟩ => ?_⟩
            · show lb__are_cycles_1 [some (.tup cs), some (dN n), some (.ref h.length), none, some (.tup ws), x5] _ = _
              unfold lb__are_cycles_1
              refine sqR (s1 _) w
            · obtain ⟨l, hl, el, tk⟩ := tl P' e
              unfold dC at el
              injection el with el
              obtain ⟨R, eR⟩ := flat_take hl
              rw [tk] at eR
              rw [eR] at o2 o3
              have n1 := (List.nodup_append.mp o2).1
              have n2 := List.nodup_append.mp n1
              exact no l el ⟨n2.2.1, fun x hx hp => n2.2.2 x hp x hx rfl, fun x hx => o3 x (List.mem_append_left _ (List.mem_append_right _ hx))⟩) with ⟨e', h', w, x4, x5, P, rfl, rfl, eP, lP, ok⟩ | ⟨d, h', w, rfl, ⟨S, rfl⟩, no⟩
  · rw [List.take_length] at eP
    refine ⟨true, ?_, by simp; exact ⟨P, eP, ok⟩⟩
    have f1 : sFor (iVal (eVar 0)) (gVar 4) lb__are_cycles_1 [some (.tup cs), some (dN n), some (.ref h.length), none, none, none] H0 = .nx [some (.tup cs), some (dN n), some (.ref h.length), none, x4, x5] (H0.set h.length (.lst (kn n P.flatten)) ++ []) := by
      rw [sFor_val]
      simp only [eVar_, List.getElem?_cons_zero, forV_tup]
      rw [List.map_id] at w
      exact w
    have f2 : m__are_cycles [some (.tup cs), some (dN n), none, none, none, none] h = .rt (.bl true) (H0.set h.length (.lst (kn n P.flatten)) ++ []) := by
      rw [pre, sSeq_, f1]; rfl
    rw [st _ f2, List.append_nil, S0]
    exact gc_app rfl
  · refine ⟨false, ?_, by simp; exact no⟩
    have f1 : sFor (iVal (eVar 0)) (gVar 4) lb__are_cycles_1 [some (.tup cs), some (dN n), some (.ref h.length), none, none, none] H0 = .rt (.bl false) (H0.set h.length (.lst (kn n S)) ++ []) := by
      rw [sFor_val]
      simp only [eVar_, List.getElem?_cons_zero, forV_tup]
      rw [List.map_id] at w
      exact w
    have f2 : m__are_cycles [some (.tup cs), some (dN n), none, none, none, none] h = .rt (.bl false) (H0.set h.length (.lst (kn n S)) ++ []) := by
      rw [pre, sSeq_, f1]; rfl
    rw [st _ f2, List.append_nil, S0]
    exact gc_app rfl
end Law

set_option maxHeartbeats 1000000
/-! from_cycles -/
namespace Law
open PySem Rf L2
/-- a cycle of f, begun anywhere -/
structure Cyl (f l : List Nat) : Prop where
  pos : 0 < l.length
  nx : ∀ k, k < l.length → f.getD (l.getD k 0) 0 = l.getD ((k + 1) % l.length) 0
open Classical in
def Im (f : List Nat) (n : Nat) (L T : List Nat) : Prop := L.length = n ∧ ∀ x, x < n → L.getD x 0 = if x ∈ T then f.getD x 0 else x
theorem Im.set {f L T : List Nat} {n x : Nat} (I : Im f n L T) (hx : x < n) : Im f n (L.set x (f.getD x 0)) (T ++ [x]) := by
  refine ⟨by simp [I.1], fun y hy => ?_⟩
  rw [getD_set (by rw [I.1]; exact hx)]
  by_cases e : x = y
  · subst e; simp
  · rw [if_neg e, I.2 y hy]
    have : y ∈ T ++ [x] ↔ y ∈ T := by
      rw [List.mem_append, List.mem_singleton]
      exact ⟨fun h => h.resolve_right fun z => e z.symm, .inl⟩
    simp only [this]
theorem images_inner {f l L T : List Nat} {n : Nat} (C : Cyl f l) (lt : ∀ x ∈ l, x < n) (ll : l.length ≤ 1000) (I : Im f n L T) {x0 x4 x5 : Option D} {h : AH} :
    ∃ (y4 y5 : Option D) (L' : List Nat), lb_from_cycles_1 [x0, some (dN n), some (.ref h.length), some (dC l), x4, x5] (h ++ [.lst (L.map dN)]) = .nx [x0, some (dN n), some (.ref h.length), some (dC l), y4, y5] (h ++ [.lst (L'.map dN)]) ∧ Im f n L' (T ++ l) := by
  obtain ⟨e', h', w, y4, y5, L', rfl, rfl, I'⟩ := sFor_enumT (m := eVar 3) (g := gTup 2 (gCons (gVar 4) (gCons (gVar 5) gNils))) (b := lb_from_cycles_2) (ds := l.map dN)
    (fun k e h' => ∃ (y4 y5 : Option D) (L' : List Nat), e = [x0, some (dN n), some (.ref h.length), some (dC l), y4, y5] ∧ h' = h ++ [.lst (L'.map dN)] ∧ Im f n L' (T ++ l.take k))
    (e := [x0, some (dN n), some (.ref h.length), some (dC l), x4, x5]) (h := h ++ [.lst (L.map dN)]) (h1 := h ++ [.lst (L.map dN)]) (by simp [dC]) ⟨x4, x5, L, rfl, rfl, by simpa using I⟩ (by
      rintro k d e h' hd ⟨y4, y5, L', rfl, rfl, I'⟩
      have kl : k < l.length := by have := (List.getElem?_eq_some_iff.mp hd).1; simpa using this
      rw [List.getElem?_map, getD_some (a := 0) kl] at hd
      have hd : dN (l.getD k 0) = d := Option.some.inj hd
      subst hd
      have xl := lt _ (getD_mem (d := 0) kl)
      have nx := C.nx k kl
      have ml : (k + 1) % l.length < l.length := Nat.mod_lt _ C.pos
      have ix : ∀ h, ixD (l.map dN) (((k + 1) % l.length : Nat) : Int) h = .ok (dN (f.getD (l.getD k 0) 0)) h := fun h => by rw [nx]; exact ixD_N ml
      have md : ((k : Int) + 1) % (l.length : Int) = (((k + 1) % l.length : Nat) : Int) := by rw [Int.natCast_emod]; rfl
      have pu : ∀ H, putO (some (.lst (L'.map dN))) h.length ((l.getD k 0 : Nat) : Int) (dN (f.getD (l.getD k 0) 0)) H = some (H.set h.length (.lst ((L'.set (l.getD k 0) (f.getD (l.getD k 0) 0)).map dN))) := fun H => putO_N (by rw [I'.1]; exact xl)
      have tk : l.take (k + 1) = l.take k ++ [l.getD k 0] := by rw [List.take_add_one, getD_some (a := 0) kl]; rfl
      refine ⟨[x0, some (dN n), some (.ref h.length), some (dC l), some (dN k), some (dN (l.getD k 0))], h ++ [.lst ((L'.set (l.getD k 0) (f.getD (l.getD k 0) 0)).map dN)], ?_, _, _, L'.set (l.getD k 0) (f.getD (l.getD k 0) 0), rfl, rfl, by rw [tk, ← List.append_assoc]; exact I'.set xl⟩
      have G : (h ++ [AO.lst (L'.map dN)])[h.length]? = some (.lst (L'.map dN)) := by simp
      have S : (h ++ [AO.lst (L'.map dN)]).set h.length (.lst ((L'.set (l.getD k 0) (f.getD (l.getD k 0) 0)).map dN)) = h ++ [.lst ((L'.set (l.getD k 0) (f.getD (l.getD k 0) 0)).map dN)] := by simp
      have l0 : (l.map dN).length = l.length := by simp
      have lp : 0 < l.length := C.pos
      have lp' : (0 : Int) < (l.length : Int) := by omega
      generalize (L'.set (l.getD k 0) (f.getD (l.getD k 0) 0)).map dN = L2 at *
      generalize f.getD (l.getD k 0) 0 = v at *
      generalize l.getD k 0 = u at *
      generalize (k + 1) % l.length = m at *
      unfold dC
      generalize l.map dN = ld at *
      generalize L'.map dN = L1 at *
      generalize h ++ [AO.lst L1] = H1 at *
      simp only [dN] at ix pu
      have lp2 : l ≠ [] := fun e => by rw [e] at lp; simp at lp
      simp [lb_from_cycles_2, dN, l0, oMod_, lp, lp', lp2, md, ix, G, pu, S])
  rw [List.length_map, List.take_length] at I'
  exact ⟨y4, y5, L', w, I'⟩
theorem identity_spec {n : Nat} (hn : n ≤ 1000) {h : AH} : c_identity [dN n] h = .ok (dC (List.range n)) h := by
  have r2 : RgOk 0 (n : Int) := rgOk_nat (by omega)
  have e : c_identity [dN n] h = gc h (.ok (dC (List.range n)) h) := by
    unfold c_identity fsem
    simp [m_identity, dN, r2, rg_zero, dC]
  rw [e, gc_same (by simp [dC])]
theorem from_good {f : List Nat} {n : Nat} (P : IsP n f) (hn : n ≤ 1000) {L : List (List Nat)} {R : List Nat} (hC : ∀ l ∈ L, Cyl f l) (pm : (L.flatten ++ R).Perm (List.range n)) (hR : ∀ x ∈ R, f.getD x 0 = x) {h : AH} :
    c_from_cycles [.tup (L.map dC), dN n] h = .ok (dC f) h := by
  have lt : ∀ x ∈ L.flatten, x < n := fun x hx => List.mem_range.mp (pm.mem_iff.mp (List.mem_append_left _ hx))
  have nd : (L.flatten ++ R).Nodup := pm.nodup_iff.mpr List.nodup_range
  have lf : L.flatten.length ≤ n := by
    have := pm.length_eq
    simp at this
    simp
    omega
  have ll : ∀ l ∈ L, l.length ≤ n := fun l hl => Nat.le_trans (List.Sublist.length_le (List.sublist_flatten_of_mem hl)) lf
  have Ln : ∀ l ∈ L, l ≠ [] := fun l hl e => by have := (hC l hl).pos; rw [e] at this; simp at this
  obtain ⟨b, w1, iff⟩ := are_tup (cs := L.map dC) (fun c hc => by
    obtain ⟨l, hl, rfl⟩ := List.mem_map.mp hc
    exact .inr ⟨l.map dN, rfl, by rw [List.length_map]; have := ll l hl; omega, fun v hv => by obtain ⟨x, _, rfl⟩ := List.mem_map.mp hv; exact .inl trivial⟩) hn (h := h)
  have bt : b = true := iff.mpr ⟨L, rfl, Ln, (List.nodup_append.mp nd).1, lt⟩
  subst bt
  have idn := identity_spec hn (h := h)
  obtain ⟨e', h', w, x3, x4, x5, J, rfl, rfl, I⟩ := loopM (k := 3) (φ := dC) (b := lb_from_cycles_1)
    (fun i e h' => ∃ (x3 x4 x5 : Option D) (J : List Nat), e = [some (.tup (L.map dC)), some (dN n), some (.ref h.length), x3, x4, x5] ∧ h' = h ++ [.lst (J.map dN)] ∧ Im f n J (L.take i).flatten)
    L (e := [some (.tup (L.map dC)), some (dN n), some (.ref h.length), none, none, none]) (h := h ++ [.lst ((List.range n).map dN)]) ⟨none, none, none, List.range n, rfl, rfl, by simp, fun x hx => by rw [range_D hx]; simp⟩ (by
      rintro i l e h' hl ⟨x3, x4, x5, J, rfl, rfl, I⟩
      have lm := List.mem_of_getElem? hl
      obtain ⟨y4, y5, J', w, I'⟩ := images_inner (hC l lm) (fun x hx => lt x (List.mem_flatten.mpr ⟨l, lm, hx⟩)) (by have := ll l lm; omega) I (x0 := some (.tup (L.map dC))) (x4 := x4) (x5 := x5) (h := h)
      refine ⟨_, _, w, _, _, _, J', rfl, rfl, ?_⟩
      rw [List.take_add_one, hl, List.flatten_append]
      simpa using I')
  rw [List.take_length] at I
  have eJ : J = f := ext_getD (by rw [I.1, P.len]) fun x hx => by
    rw [I.1] at hx
    rw [I.2 x hx]
    by_cases c : x ∈ L.flatten
    · rw [if_pos c]
    · rw [if_neg c]
      rcases List.mem_append.mp (pm.mem_iff.mpr (List.mem_range.mpr hx)) with z | z
      · exact absurd z c
      · exact (hR x z).symm
  rw [eJ] at w
  have e : c_from_cycles [.tup (L.map dC), dN n] h = gc h (.ok (dC f) (h ++ [.lst (f.map dN)])) := by
    show gc h (outS (m_from_cycles [some (.tup (L.map dC)), some (dN n), none, none, none, none] h)) = _
    have key : m_from_cycles [some (.tup (L.map dC)), some (dN n), none, none, none, none] h = .rt (dC f) (h ++ [.lst (f.map dN)]) := by
      unfold m_from_cycles
      refine sqR (e1 := [some (.tup (L.map dC)), some (dN n), none, none, none, none]) (h1 := h) (by
        generalize L.map dC = Ld at *
        simp [w1]) ?_
      refine sqR (e1 := [some (.tup (L.map dC)), some (dN n), some (.ref h.length), none, none, none]) (h1 := h ++ [.lst ((List.range n).map dN)]) (by
        unfold dC at idn
        simp [idn]) ?_
      refine sqR (e1 := [some (.tup (L.map dC)), some (dN n), some (.ref h.length), x3, x4, x5]) (h1 := h ++ [.lst (f.map dN)]) (by
        rw [sFor_val]
        simp only [eVar_, List.getElem?_cons_zero, forV_tup]
        exact w) ?_
      simp [dC]
    rw [key]; rfl
  rw [e, gc_app (by simp [dC])]
theorem from_bad {d : D} {n : Nat} {h : AH} (w : c__are_cycles [d, dN n] h = .ok (.bl false) h) : c_from_cycles [d, dN n] h = .exc "InvalidCycles" [("value", d)] h := by
  have e : c_from_cycles [d, dN n] h = gc h (.exc "InvalidCycles" [("value", d)] h) := by
    unfold c_from_cycles fsem
    simp [m_from_cycles, w]
  rw [e]; rfl
/-- _law_refused at a value that is refused and like itself -/
theorem refused_spec {d : D} {n : Nat} {h : AH} (w : c__are_cycles [d, dN n] h = .ok (.bl false) h) (al : Al 5 d) : c__law_refused [d, dN n] h = .ok (.bl true) h := by
  have fb := from_bad w
  have ak := alike (k := 5) (by omega) al h
  have lk : List.lookup (Str.ofString "InvalidCycles") [(Str.ofString "InvalidCycles", true)] = some true := by decide
  have e : c__law_refused [d, dN n] h = gc h (.ok (.bl true) h) := by
    unfold c__law_refused fsem
    simp [m__law_refused, fb, lk, ak, th__law_refused_1, th__law_refused_1_InvalidCycles]
  rw [e, gc_same rfl]
end Law

set_option maxHeartbeats 1000000
/-! _law_turned: the laps turned -/
namespace Law
open PySem Rf L2
theorem perm_map {α β : Type} {g : α → β} : ∀ {xs ws : List β}, xs.Perm ws → ∀ {ys : List α}, ws = ys.map g → ∃ zs : List α, zs.Perm ys ∧ xs = zs.map g := by
  intro xs ws p
  induction p with
  | nil => intro ys e; cases ys with
    | nil => exact ⟨[], .refl _, rfl⟩
    | cons _ _ => simp at e
  | cons x _ ih =>
    intro ys e
    cases ys with
    | nil => simp at e
    | cons y ys =>
      rw [List.map_cons] at e
      injection e with e1 e2
      obtain ⟨zs, p1, e3⟩ := ih e2
      exact ⟨y :: zs, p1.cons y, by rw [List.map_cons, e3, e1]⟩
  | swap x y l =>
    intro ys e
    match ys, e with
    | y1 :: y2 :: ys, e =>
      rw [List.map_cons, List.map_cons] at e
      injection e with e1 e2
      injection e2 with e2 e3
      exact ⟨y2 :: y1 :: ys, List.Perm.swap _ _ _, by rw [List.map_cons, List.map_cons, e1, e2, e3]⟩
    | [y1], e => simp at e
    | [], e => simp at e
  | trans _ _ ih1 ih2 =>
    intro ys e
    obtain ⟨zs, p1, e1⟩ := ih2 e
    obtain ⟨ws, p2, e2⟩ := ih1 e1
    exact ⟨ws, p2.trans p1, e2⟩
theorem gc_aft_RA {a g m N i : Nat} {h h' : AH} {rs : List Nat} {L : List (List D)} (l : a < h.length ∧ g < h.length ∧ m < h.length) (x : Aft a g m N h h') (A : RA h.length h' i rs L) :
    ∃ r h2, gc h (.ok (.ref i) h') = .ok (.ref r) h2 ∧ RA h.length h2 r rs L ∧ Aft a g m N h h2 := by
  by_cases e : rs = []
  · subst e
    have Ln : L = [] := List.eq_nil_of_length_eq_zero (by rw [← A.len]; rfl)
    subst Ln
    obtain ⟨r, h2, w, e2, hr, A2⟩ := gc_aft_list l x A.br A.rf rfl
    exact ⟨r, h2, w, ⟨e2, hr, by simp, rfl, by simp⟩, A2⟩
  · refine ⟨i, h', gc_deep A.rf ?_, A, x⟩
    cases rs with
    | nil => exact absurd rfl e
    | cons y ys => rfl
section
variable {f c : List Nat} {n d : Nat}
def rot (c : List Nat) (d : Nat) : List Nat := c.drop d ++ c.take d
theorem rot_len (hd : d ≤ c.length) : (rot c d).length = c.length := by simp [rot]; omega
theorem rot_at (hd : d < c.length) {k : Nat} (hk : k < c.length) : (rot c d).getD k 0 = c.getD ((k + d) % c.length) 0 := by
  unfold rot
  rw [List.getD_eq_getElem?_getD, List.getD_eq_getElem?_getD]
  by_cases q : k < c.length - d
  · rw [List.getElem?_append_left (by simp; omega), List.getElem?_drop, Nat.mod_eq_of_lt (by omega), Nat.add_comm]
  · rw [List.getElem?_append_right (by simp; omega), List.length_drop, List.getElem?_take_of_lt (by omega)]
    have : (k + d) % c.length = k - (c.length - d) := by
      rw [Nat.mod_eq_sub_mod (by omega), Nat.mod_eq_of_lt (by omega)]; omega
    rw [this]
theorem rot_perm (c : List Nat) (d : Nat) : (rot c d).Perm c := by
  unfold rot
  have := List.perm_append_comm (l₁ := c.drop d) (l₂ := c.take d)
  rwa [List.take_append_drop] at this
theorem rot_cyl {x : Nat} (C : Cy f x c) (hd : d < c.length) : Cyl f (rot c d) := by
  have p := C.pos
  refine ⟨by rw [rot_len (by omega)]; exact p, fun k hk => ?_⟩
  rw [rot_len (by omega)] at hk ⊢
  have m1 : (k + d) % c.length < c.length := Nat.mod_lt _ p
  rw [rot_at hd hk, rot_at hd (Nat.mod_lt _ p), C.nxt m1]
  congr 1
  have e : ((k + 1) % c.length + d) % c.length = ((k + d) % c.length + 1) % c.length := by
    rw [Nat.mod_add_mod, Nat.mod_add_mod]; congr 1; omega
  rw [e]
  by_cases q : (k + d) % c.length + 1 < c.length
  · rw [if_pos q, Nat.mod_eq_of_lt q]
  · rw [if_neg q, show (k + d) % c.length + 1 = c.length by omega, Nat.mod_self]
end
/-- a turned lap put to the pool -/
theorem turn_put {n p y d b : Nat} {c rs1 : List Nat} {L : List (List D)} {x0 x1 x5 x6 : Option D} {H : AH} (A : RA b H p rs1 L) (G : H[y]? = some (.lst (c.map dN))) (hd : d ≤ c.length) (cl : c.length ≤ 1000) (rl : rs1.length ≤ 1000) :
    sExpr (eMeth "list" mAppend (eVar 2) (lCons (eOp oAdd (eSl (eVar 3) (some (eVar 4)) none) (eSl (eVar 3) none (some (eVar 4)))) lNil)) [x0, x1, some (.ref p), some (.ref y), some (.int d), x5, x6] H =
      .nx [x0, x1, some (.ref p), some (.ref y), some (.int d), x5, x6] ((H ++ [AO.lst ((c.drop d).map dN), AO.lst ((c.take d).map dN), AO.lst ((rot c d).map dN)]).set p (AO.lst (rs1.map D.ref ++ [D.ref (H.length + 2)]))) ∧
    RA b ((H ++ [AO.lst ((c.drop d).map dN), AO.lst ((c.take d).map dN), AO.lst ((rot c d).map dN)]).set p (AO.lst (rs1.map D.ref ++ [D.ref (H.length + 2)]))) p (rs1 ++ [H.length + 2]) (L ++ [(rot c d).map dN]) := by
  have pl := A.lt.1
  have bp := A.br
  have A2 := A.app [AO.lst ((c.drop d).map dN), AO.lst ((c.take d).map dN), AO.lst ((rot c d).map dN)]
  have G3 : (H ++ [AO.lst ((c.drop d).map dN), .lst ((c.take d).map dN), .lst ((rot c d).map dN)])[H.length + 2]? = some (.lst ((rot c d).map dN)) := by rw [app_get]; rfl
  refine ⟨?_, A2.push G3 (by omega) (by omega)⟩
  have rf := A.rf
  have rf3 := A2.rf
  have ty : tyOk H "list" (.ref p) = true := by simp [tyOk, rf]
  have c1 : cutD (c.map dN) (some (d : Int)) none = (c.drop d).map dN := by rw [cutD_from, List.map_drop]
  have c2 : cutD (c.map dN) none (some (d : Int)) = (c.take d).map dN := by rw [cutD_to, List.map_take]
  have G1 : (H ++ [AO.lst ((c.drop d).map dN)])[y]? = some (.lst (c.map dN)) := app_get_l G
  have l1 : (H ++ [AO.lst ((c.drop d).map dN)]).length = H.length + 1 := by simp
  have l2 : (H ++ [AO.lst ((c.drop d).map dN), .lst ((c.take d).map dN)]).length = H.length + 2 := by simp
  have g1 : (H ++ [AO.lst ((c.drop d).map dN), .lst ((c.take d).map dN)])[H.length]? = some (.lst ((c.drop d).map dN)) := by simp
  have g2 : (H ++ [AO.lst ((c.drop d).map dN), .lst ((c.take d).map dN)])[H.length + 1]? = some (.lst ((c.take d).map dN)) := by rw [app_get]; rfl
  have ad := oAdd_ref (r := H.length) (q := H.length + 1) (h := H ++ [AO.lst ((c.drop d).map dN), .lst ((c.take d).map dN)]) g1 g2
  have ft : Fits (((c.drop d).map dN).length + ((c.take d).map dN).length) := fits (by simp; omega)
  have er : (c.drop d).map dN ++ (c.take d).map dN = (rot c d).map dN := by unfold rot; rw [List.map_append]
  rw [if_pos ft, er, l2, List.append_assoc] at ad
  have ad' : oAdd (.ref H.length) (.ref (H.length + 1)) (H ++ [AO.lst ((c.drop d).map dN), .lst ((c.take d).map dN)]) = .ok (.ref (H.length + 2)) (H ++ [AO.lst ((c.drop d).map dN), .lst ((c.take d).map dN), .lst ((rot c d).map dN)]) := ad
  have ap : ∀ v h, appO (some (.lst (rs1.map D.ref))) p v h = .ok .non (h.set p (.lst (rs1.map D.ref ++ [v]))) := fun v h => appO_lst (by rw [List.length_map, sizeLine_eq]; omega)
  generalize H ++ [AO.lst ((c.drop d).map dN), .lst ((c.take d).map dN), .lst ((rot c d).map dN)] = H3 at *
  generalize (c.drop d).map dN = L1 at *
  generalize (c.take d).map dN = L2 at *
  simp [ty, G, c1, G1, c2, ad', rf3, ap]
end Law

set_option maxHeartbeats 1000000
/-! _law_turned -/
namespace Law
open PySem Rf L2
theorem laps_flat {f : List Nat} {n : Nat} (P : IsP n f) : (laps f n).flatten.Perm (List.range n) := by
  refine List.Perm.trans ?_ (flat_perm (n := n) (one_P P))
  unfold laps
  rw [← List.flatMap_def]
  have : ∀ hs : List Nat, (∀ x ∈ hs, x < n) → (hs.flatMap (cyc f)).Perm (hs.flatMap (orb [f] n)) := by
    intro hs
    induction hs with
    | nil => intro _; exact .refl _
    | cons x hs ih =>
      intro h
      rw [List.flatMap_cons, List.flatMap_cons]
      have hx := h x (by simp)
      exact ((cyc_cy P hx).perm P hx).append (ih fun y hy => h y (by simp [hy]))
  exact this _ fun x hx => (mem_heads.mp hx).1
/-- the bag, and a thing p, changed -/
structure Ap (a g m p N : Nat) (H H' : AH) : Prop where
  bg : Bg H' a g m N
  le : H.length ≤ H'.length
  kp : ∀ (j : Nat) (o : AO), j ≠ a → j ≠ g → j ≠ p → H[j]? = some o → H'[j]? = some o
theorem Ap.aft {a g m p N M : Nat} {h H H' : AH} (A : Aft a g m M h H) (X : Ap a g m p N H H') (hp : h.length ≤ p) : Aft a g m N h H' := ⟨X.bg, ⟨by have := A.ev.le; have := X.le; omega, fun i hi ha hg => by
  have e := A.ev.eq i hi ha hg
  obtain ⟨o, ho⟩ : ∃ o, h[i]? = some o := ⟨_, List.getElem?_eq_getElem hi⟩
  rw [ho] at e ⊢
  exact X.kp i o ha hg (by omega) e⟩⟩
theorem Ap.of {a g m p N : Nat} {H H1 g' : AH} {o : AO} (X : Aft a g m N H H1) (h1 : p ≠ a) (h2 : p ≠ g) (h3 : p ≠ m) : Ap a g m p N H ((H1 ++ g').set p o) :=
  ⟨(X.app g').bg.set h1 h2 h3, by have := X.ev.le; simp; omega, fun j o' ja jg jp e => by
    rw [List.getElem?_set_ne (Ne.symm jp)]; exact app_get_l (X.ev.get e ja jg)⟩
theorem Ap.aft' {a g m p N : Nat} {H H1 : AH} (X : Aft a g m N H H1) : Ap a g m p N H H1 := ⟨X.bg, X.ev.le, fun j o ja jg _ e => X.ev.get e ja jg⟩
/-- one lap -/
theorem turn_step {f : List Nat} {n : Nat} (P : IsP n f) (n2 : n ≤ 1000) {a g m N b p y i : Nat} {H : AH} (B : Bg H a g m N) (hN : N + 10 ≤ 1000000000) {c rs1 : List Nat} {L : List (List D)} (hi : i < n) (ec : c = cyc f i) (A : RA b H p rs1 L) (ab : a < b ∧ g < b ∧ m < b) (G : H[y]? = some (.lst (c.map dN))) (by_ : b ≤ y)
    (rl : rs1.length ≤ 1000) {x4 : Option D} :
    ∃ (x4' : Option D) (H' : AH), lb__law_turned_1 [some (.ref a), some (dC f), some (.ref p), some (.ref y), x4, none, none] H = .nx [some (.ref a), some (dC f), some (.ref p), some (.ref y), x4', none, none] H' ∧ Ap a g m p (N + 2) H H' ∧
      ((∃ (z d : Nat), d < c.length ∧ RA b H' p (rs1 ++ [z]) (L ++ [(rot c d).map dN])) ∨ (RA b H' p rs1 L ∧ ∀ x ∈ c, f.getD x 0 = x)) := by
  have C := cyc_cy P hi
  rw [← ec] at C
  have cp := C.pos
  have cl := C.toPa.len P hi
  have pb := A.br
  obtain ⟨d, H1, w1, hd, A1, L1⟩ := takeA B (by omega) (s := c.length) (by omega) (by omega)
  have RA1 := A.ev A1.ev ab.1 ab.2.1
  have G1 : H1[y]? = some (.lst (c.map dN)) := A1.ev.get G (by omega) (by omega)
  have l0 : (c.map dN).length = c.length := by simp
  have s1 : sSet 4 (eCall (argn 2 c__law_take) (lCons (eVar 0) (lCons (eCall cLen (lCons (eVar 3) lNil)) lNil))) [some (.ref a), some (dC f), some (.ref p), some (.ref y), x4, none, none] H = .nx [some (.ref a), some (dC f), some (.ref p), some (.ref y), some (.int d), none, none] H1 := by
    generalize c.map dN = cd at *
    simp [G, l0, w1]
  by_cases q : 1 < c.length
  · obtain ⟨w2, RA2⟩ := turn_put (n := n) RA1 G1 (Nat.le_of_lt hd) (by omega) rl (x0 := some (.ref a)) (x1 := some (dC f)) (x5 := none) (x6 := none)
    refine ⟨some (.int d), _, ?_, Ap.of (A1.mono (by omega)) (by omega) (by omega) (by omega), .inl ⟨_, d, hd, RA2⟩⟩
    unfold lb__law_turned_1
    refine sqR s1 ?_
    have q' : (1 : Int) < (c.length : Int) := by omega
    rw [sIf_]
    have ht : eOr (eOp oGt (eCall cLen (lCons (eVar 3) lNil)) (eC (.int 1))) (eOp oEq (eCall (argn 2 c__law_take) (lCons (eVar 0) (lCons (eC (.int 2)) lNil))) (eC (.int 1))) [some (.ref a), some (dC f), some (.ref p), some (.ref y), some (.int d), none, none] H1 = .ok (.bl true) H1 := by
      generalize c.map dN = cd at *
      simp [G1, l0, q, q']
    rw [ht, thenS_ok, onB_bl, if_pos rfl]
    exact w2
  · have c1 : c.length = 1 := by omega
    obtain ⟨d2, H2, w2, hd2, A2, L2⟩ := takeI A1.bg (by omega) (s := 2) (by omega) (by omega)
    have RA2 := RA1.ev A2.ev ab.1 ab.2.1
    have G2 : H2[y]? = some (.lst (c.map dN)) := A2.ev.get G1 (by omega) (by omega)
    have q' : ¬ (1 : Int) < (c.length : Int) := by omega
    have ht : eOr (eOp oGt (eCall cLen (lCons (eVar 3) lNil)) (eC (.int 1))) (eOp oEq (eCall (argn 2 c__law_take) (lCons (eVar 0) (lCons (eC (.int 2)) lNil))) (eC (.int 1))) [some (.ref a), some (dC f), some (.ref p), some (.ref y), some (.int d), none, none] H1 = .ok (.bl ((d2 : Int) == 1)) H2 := by
      generalize c.map dN = cd at *
      generalize hb : ((d2 : Int) == 1) = bb at *
      simp [G1, l0, q, q', w2, hb]
    by_cases z : (d2 : Int) = 1
    · obtain ⟨w3, RA3⟩ := turn_put (n := n) RA2 G2 (Nat.le_of_lt hd) (by omega) rl (x0 := some (.ref a)) (x1 := some (dC f)) (x5 := none) (x6 := none)
      refine ⟨some (.int d), _, ?_, Ap.of ((A1.step A2).mono (by omega)) (by omega) (by omega) (by omega), .inl ⟨_, d, hd, RA3⟩⟩
      unfold lb__law_turned_1
      refine sqR s1 ?_
      rw [sIf_, ht, thenS_ok, onB_bl, if_pos (by rw [z]; rfl)]
      exact w3
    · refine ⟨some (.int d), H2, ?_, Ap.aft' ((A1.step A2).mono (by omega)), .inr ⟨RA2, fun x hx => ?_⟩⟩
      · unfold lb__law_turned_1
        refine sqR s1 ?_
        rw [sIf_, ht, thenS_ok, onB_bl, if_neg (by simpa using z)]
        rfl
      · obtain ⟨k, hk, rfl⟩ := List.mem_iff_getElem.mp hx
        have k0 : k = 0 := by omega
        subst k0
        have h0 := C.hd
        have hc := C.cl
        rw [c1, show 1 - 1 = 0 by omega, h0] at hc
        rw [getD_get cp] at h0
        rw [h0]; exact hc
theorem mPopAt_ref {us : List Nat} {h : AH} {r j : Nat} (hr : h[r]? = some (.lst (us.map D.ref))) (hj : j < us.length) (hl : us.length ≤ 1000000) : mPopAt (.ref r) [.int (j : Int)] h = .ok (.ref (us.getD j 0)) (h.set r (.lst ((us.eraseIdx j).map D.ref))) := by
  unfold mPopAt
  dsimp only
  rw [hr]
  dsimp only
  rw [ixN_nat (by simpa using hj)]
  dsimp only
  rw [List.getElem?_map, getD_some (a := 0) hj]
  dsimp only [Option.map]
  rw [if_pos (show Fits (us.map D.ref).length from fits (by simp; omega)), eraseIdx_map']
theorem turned_spec {f : List Nat} {n : Nat} (P : IsP n f) (n1 : 1 ≤ n) (n2 : n ≤ 1000) {a g m N : Nat} {h : AH} (B : Bg h a g m N) (hN : N + 3 * n + 20 ≤ 1000000000) :
    ∃ (r : Nat) (h' : AH) (rs : List Nat) (L : List (List Nat)) (R : List Nat), c__law_turned [.ref a, dC f] h = .ok (.ref r) h' ∧ RA h.length h' r rs (L.map fun l => l.map dN) ∧ Aft a g m (N + 3 * n) h h' ∧
      (∀ l ∈ L, Cyl f l) ∧ (L.flatten ++ R).Perm (List.range n) ∧ ∀ x ∈ R, f.getD x 0 = x := by
  have ll := B.lt
  obtain ⟨p, hp⟩ : ∃ p, p = h.length := ⟨_, rfl⟩
  obtain ⟨h0, hh0⟩ : ∃ h0, h0 = h ++ [AO.lst []] := ⟨_, rfl⟩
  have l0 : h0.length = p + 1 := by rw [hh0, hp]; simp
  obtain ⟨r, rs, gg, w1, A⟩ := laps_spec P n1 n2 (h := h0)
  obtain ⟨H1, hH1⟩ : ∃ H, H = h0 ++ gg := ⟨_, rfl⟩
  rw [← hH1] at w1 A
  have AftH : Aft a g m N h H1 := by rw [hH1, hh0]; exact ((⟨B, .refl _ _ _⟩ : Aft a g m N h h).app _).app _
  have p0 : RA h.length H1 p [] ([] : List (List D)) := by
    have := RA.new h.length h (Nat.le_refl _)
    rw [hH1, hh0, hp]
    exact this.app gg
  have rl := A.len
  have ll2 := lapsD_len (f := f) (n := n)
  -- the pool
  obtain ⟨e', H2, w2, x3, x4, rs1, L1, R1, rfl, A2, RP, RL, C1, pm1, fx1, cnt1⟩ := liveL_inv (g := gVar 3) (b := lb__law_turned_1) (r := r) (ds := rs.map D.ref)
    (fun i e h' => ∃ (x3 x4 : Option D) (rs1 : List Nat) (L1 : List (List Nat)) (R1 : List Nat), e = [some (.ref a), some (dC f), some (.ref p), x3, x4, none, none] ∧ Aft a g m (N + 2 * i) h h' ∧ RA h.length h' p rs1 (L1.map fun l => l.map dN) ∧
      RA (p + 1) h' r rs ((laps f n).map fun l => l.map dN) ∧ (∀ l ∈ L1, Cyl f l) ∧ (L1.flatten ++ R1).Perm ((laps f n).take i).flatten ∧ (∀ x ∈ R1, f.getD x 0 = x) ∧ rs1.length ≤ i)
    (by rintro i e h' ⟨_, _, _, _, _, _, _, _, z, _⟩; exact z.rf)
    (e := [some (.ref a), some (dC f), some (.ref p), none, none, none, none]) (h := H1) ⟨none, none, [], [], [], rfl, AftH, p0, by rw [← l0]; exact A, by simp, by simp, by simp, by simp⟩ (by
      rintro i d e h' hd ⟨x3, x4, rs1, L1, R1, rfl, A', RP, RL, C1, pm1, fx1, cnt1⟩
      have il : i < rs.length := by have := (List.getElem?_eq_some_iff.mp hd).1; simpa using this
      have il2 : i < ((laps f n).map fun l => l.map dN).length := by rw [← rl]; exact il
      have il3 : i < (laps f n).length := by simpa using il2
      obtain ⟨y, ey, yb, G⟩ := RL.get il2
      rw [List.getElem?_map, ey] at hd
      have hd : D.ref y = d := Option.some.inj hd
      subst hd
      have el : ((laps f n).map fun l => l.map dN).getD i [] = ((laps f n)[i]).map dN := by
        rw [List.getD_eq_getElem?_getD, List.getElem?_map, List.getElem?_eq_getElem il3]; rfl
      rw [el] at G
      obtain ⟨x, hx, ex⟩ := List.mem_map.mp (List.getElem_mem il3)
      have xn := (mem_heads.mp hx).1
      have in2 : i ≤ n := by omega
      obtain ⟨x4', H', w, X, cs⟩ := turn_step P n2 A'.bg (by omega) xn ex.symm RP ⟨by omega, by omega, by omega⟩ G (by omega) (by omega) (x4 := x4)
      have RL' : RA (p + 1) H' r rs ((laps f n).map fun l => l.map dN) := RL.mono fun j o hj e => X.kp j o (by omega) (by omega) (by omega) e
      have A2 := X.aft A' (by omega)
      have tk : ((laps f n).take (i + 1)).flatten = ((laps f n).take i).flatten ++ (laps f n)[i] := by
        rw [List.take_add_one, List.getElem?_eq_getElem il3, List.flatten_append]; simp
      rcases cs with ⟨z, d, hd, RA'⟩ | ⟨RA', fx⟩
      · refine ⟨_, H', w, some (.ref y), x4', rs1 ++ [z], L1 ++ [rot (laps f n)[i] d], R1, rfl, A2.mono (by omega), by rw [List.map_append]; exact RA', RL', fun l hl => ?_, ?_, fx1, by simp; omega⟩
        · rcases List.mem_append.mp hl with q | q
          · exact C1 l q
          · rw [List.mem_singleton] at q
            rw [q, ← ex]
            rw [← ex] at hd
            exact rot_cyl (cyc_cy P xn) hd
        · rw [tk, List.flatten_append]
          simp only [List.flatten_cons, List.flatten_nil, List.append_nil]
          refine List.Perm.trans ?_ (pm1.append (rot_perm _ d))
          rw [List.append_assoc, List.append_assoc]
          exact List.Perm.append_left _ List.perm_append_comm
      · refine ⟨_, H', w, some (.ref y), x4', rs1, L1, R1 ++ (laps f n)[i], rfl, A2.mono (by omega), RA', RL', C1, ?_, fun x hx => ?_, by omega⟩
        · rw [tk, ← List.append_assoc]
          exact pm1.append_right _
        · rcases List.mem_append.mp hx with q | q
          · exact fx1 x q
          · exact fx x q)
  rw [List.length_map] at A2 pm1 cnt1
  rw [rl, List.length_map, List.take_length] at pm1
  have pmN := pm1.trans (laps_flat P)
  have rsn : rs.length ≤ n := by omega
  -- drawn in any order
  obtain ⟨q, hq⟩ : ∃ q, q = H2.length := ⟨_, rfl⟩
  have pq : p < q := by rw [hq]; exact RP.lt.1
  have rsq := RP.lt.2
  obtain ⟨H3, hH3⟩ : ∃ H3, H3 = H2 ++ [AO.lst []] := ⟨_, rfl⟩
  obtain ⟨e', H4, w3, x6, s1, s2, rfl, A4, g1, g2, pm2, ls2, kp⟩ := loopN (k := 6) (b := lb__law_turned_2)
    (fun i e h' => ∃ (x6 : Option D) (s1 s2 : List Nat), e = [some (.ref a), some (dC f), some (.ref p), x3, x4, some (.ref q), x6] ∧ Aft a g m (N + 2 * rs.length + i) h h' ∧ h'[p]? = some (.lst (s1.map D.ref)) ∧ h'[q]? = some (.lst (s2.map D.ref)) ∧
      (s2 ++ s1).Perm rs1 ∧ s2.length = i ∧ ∀ x ∈ rs1, h'[x]? = H2[x]?)
    rs1.length (e := [some (.ref a), some (dC f), some (.ref p), x3, x4, some (.ref q), none]) (h := H3)
    ⟨none, rs1, [], rfl, by rw [hH3]; exact A2.app _, by rw [hH3]; exact app_get_l RP.rf, by rw [hH3, hq]; simp, by simp, rfl, fun x hx => by rw [hH3, List.getElem?_append_left (rsq x hx)]⟩ (by
      rintro i e h' hi ⟨x6, s1, s2, rfl, A', g1, g2, pm2, ls2, kp⟩
      have ls1 : s1.length = rs1.length - i := by have := pm2.length_eq; simp at this; omega
      obtain ⟨d, h5, w5, hd, A5, L5⟩ := takeA A'.bg (by omega) (s := s1.length) (by omega) (by omega)
      have g15 : h5[p]? = some (.lst (s1.map D.ref)) := A5.ev.get g1 (by omega) (by omega)
      have g25 : h5[q]? = some (.lst (s2.map D.ref)) := A5.ev.get g2 (by omega) (by omega)
      have po := mPopAt_ref g15 hd (by omega)
      have q5 : q < h5.length := (List.getElem?_eq_some_iff.mp g25).1
      obtain ⟨h6, hh6⟩ : ∃ h6, h6 = h5.set p (.lst ((s1.eraseIdx d).map D.ref)) := ⟨_, rfl⟩
      rw [← hh6] at po
      have g16 : h6[p]? = some (.lst ((s1.eraseIdx d).map D.ref)) := by rw [hh6]; exact List.getElem?_set_self (by omega)
      have g26 : h6[q]? = some (.lst (s2.map D.ref)) := by rw [hh6, List.getElem?_set_ne (by omega)]; exact g25
      have ap : ∀ v H, appO (some (.lst (s2.map D.ref))) q v H = .ok .non (H.set q (.lst (s2.map D.ref ++ [v]))) := fun v H => appO_lst (by rw [List.length_map, sizeLine_eq]; omega)
      have A6 : Aft a g m (N + 2 * rs.length + i + 1) h (h6.set q (.lst ((s2 ++ [s1.getD d 0]).map D.ref))) := by
        rw [hh6]
        exact ((A'.step A5).setN ll (by omega)).setN ll (by omega)
      refine ⟨[some (.ref a), some (dC f), some (.ref p), x3, x4, some (.ref q), some (dN i)], h6.set q (.lst ((s2 ++ [s1.getD d 0]).map D.ref)), ?_, some (dN i), s1.eraseIdx d, s2 ++ [s1.getD d 0], rfl, A6, ?_, ?_, ?_, by simp [ls2], ?_⟩
      · have t1 : tyOk h' "list" (.ref q) = true := by simp [tyOk, g2]
        have t2 : tyOk h' "list" (.ref p) = true := by simp [tyOk, g1]
        have l1 : (s1.map D.ref).length = s1.length := by simp
        rw [List.map_append]
        generalize s1.getD d 0 = v at *
        generalize s1.map D.ref = s1d at *
        generalize s2.map D.ref = s2d at *
        clear hh6
        simp [lb__law_turned_2, t1, t2, g1, l1, w5, po, g26, ap]
      · rw [List.getElem?_set_ne (by omega)]; exact g16
      · exact List.getElem?_set_self (by rw [hh6]; simpa using q5)
      · rw [List.append_assoc]
        exact ((List.Perm.append_left s2 (perm_pick hd))).trans pm2
      · intro x hx
        have xp := RP.nr x hx
        have xq := rsq x hx
        have xb := RP.bs x hx
        rw [List.getElem?_set_ne (by omega), hh6, List.getElem?_set_ne (Ne.symm xp), ← kp x hx]
        have hxl : x < h'.length := by have := (List.getElem?_eq_some_iff.mp g2).1; omega
        exact A5.ev.eq x hxl (by omega) (by omega))
  have s1n : s1 = [] := by
    have := pm2.length_eq
    simp at this
    exact List.eq_nil_of_length_eq_zero (by omega)
  subst s1n
  rw [List.append_nil] at pm2
  have at1 : (s2.map fun x => H2[x]?).Perm (rs1.map fun x => H2[x]?) := pm2.map _
  have at2 : (rs1.map fun x => H2[x]?) = L1.map fun l => some (AO.lst (l.map dN)) := by rw [RP.at_, List.map_map]; rfl
  obtain ⟨L, pmL, eL⟩ := perm_map at1 at2
  have RQ : RA h.length H4 q s2 (L.map fun l => l.map dN) := by
    refine ⟨g2, by omega, fun x hx => RP.bs x (pm2.mem_iff.mp hx), ?_, fun x hx => by have := rsq x (pm2.mem_iff.mp hx); omega⟩
    have : (s2.map fun x => H4[x]?) = s2.map fun x => H2[x]? := List.map_congr_left fun x hx => kp x (pm2.mem_iff.mp hx)
    rw [this, eL, List.map_map]; rfl
  obtain ⟨r9, h9, w9, RA9, A9⟩ := gc_aft_RA ll A4 RQ
  refine ⟨r9, h9, s2, L, R1, ?_, RA9, A9.mono (by omega), fun l hl => C1 l (pmL.mem_iff.mp hl), ?_, fx1⟩
  · rw [← w9]
    show gc h (outS (m__law_turned [some (.ref a), some (dC f), none, none, none, none, none] h)) = _
    have key : m__law_turned [some (.ref a), some (dC f), none, none, none, none, none] h = .rt (.ref q) H4 := by
      unfold m__law_turned
      refine sqR (e1 := [some (.ref a), some (dC f), some (.ref p), none, none, none, none]) (h1 := h0) (by simp [hp, hh0]) ?_
      refine sqR (e1 := [some (.ref a), some (dC f), some (.ref p), x3, x4, none, none]) (h1 := H2) (by
        have q1 : eCall (argn 1 c__law_laps) (lCons (eVar 1) lNil) [some (.ref a), some (dC f), some (.ref p), none, none, none, none] h0 = .ok (.ref r) H1 := by simp [w1]
        rw [sFor_val, q1, forV_ref, A.rf, forO_lst]
        exact w2) ?_
      refine sqR (e1 := [some (.ref a), some (dC f), some (.ref p), x3, x4, some (.ref q), none]) (h1 := H3) (by simp [hq, hH3]) ?_
      refine sqR (e1 := [some (.ref a), some (dC f), some (.ref p), x3, x4, some (.ref q), x6]) (h1 := H4) (by
        have gp : H3[p]? = some (.lst (rs1.map D.ref)) := by rw [hH3]; exact app_get_l RP.rf
        have q1 : lCons (eCall cLen (lCons (eVar 2) lNil)) lNil [some (.ref a), some (dC f), some (.ref p), x3, x4, some (.ref q), none] H3 = .ok [.int (rs1.length : Int)] H3 := by simp [gp]
        rw [sFor_range1, q1, forR_ok, if_pos (rgB_nat (by omega)), Int.toNat_natCast, rg_zero]
        exact w3) ?_
      simp
    rw [key]; rfl
  · exact (pmL.flatten.append_right _).trans pmN
end Law

set_option maxHeartbeats 1000000
/-! _law_put -/
namespace Law
open PySem Rf L2
/-- rows that may be handed in -/
def Gd (k : Nat) (L : List (List D)) : Prop := L.length ≤ k ∧ ∀ l ∈ L, l.length ≤ k ∧ ∀ d ∈ l, V0 d ∧ Al 3 d
theorem Gd.mono {k j : Nat} {L : List (List D)} (G : Gd k L) (h : k ≤ j) : Gd j L := ⟨Nat.le_trans G.1 h, fun l hl => ⟨Nat.le_trans (G.2 l hl).1 h, (G.2 l hl).2⟩⟩
theorem Gd.pures {k : Nat} {L : List (List D)} (G : Gd k L) : ∀ c ∈ L, pures c = true := fun c hc => pures_iff.mpr fun d hd => ((G.2 c hc).2 d hd).1.pure
theorem add_new {r q : Nat} {xs ys : List D} {h : AH} (hr : h[r]? = some (.lst xs)) (hq : h[q]? = some (.lst ys)) (l : xs.length + ys.length ≤ 100000) : oAdd (.ref r) (.ref q) h = .ok (.ref h.length) (h ++ [.lst (xs ++ ys)]) := by
  rw [oAdd_ref hr hq, if_pos (fits (by omega))]
theorem RA.mkNew {b : Nat} {H H' : AH} {r : Nat} {rs xs : List Nat} {L K : List (List D)} (rf : H'[r]? = some (.lst (xs.map D.ref))) (br : b ≤ r) (bs : ∀ x ∈ xs, b ≤ x ∧ x < r) (at_ : xs.map (fun x => H'[x]?) = K.map fun l => some (.lst l)) : RA b H' r xs K :=
  ⟨rf, br, fun x hx => (bs x hx).1, at_, fun x hx => by have := (bs x hx).2; omega⟩
section
variable {b r : Nat} {H : AH} {rs : List Nat} {L : List (List D)}
theorem RA.at' (A : RA b H r rs L) (g : AH) : rs.map (fun x => (H ++ g)[x]?) = L.map fun l => some (AO.lst l) := (A.app g).at_
theorem RA.takeAt (A : RA b H r rs L) (g : AH) (s : Nat) : (rs.take s).map (fun x => (H ++ g)[x]?) = (L.take s).map fun l => some (AO.lst l) := by
  rw [List.map_take, A.at' g, List.map_take]
theorem RA.dropAt (A : RA b H r rs L) (g : AH) (s : Nat) : (rs.drop s).map (fun x => (H ++ g)[x]?) = (L.drop s).map fun l => some (AO.lst l) := by
  rw [List.map_drop, A.at' g, List.map_drop]
end
theorem put_spec {b r a g m N k : Nat} {h : AH} {rs : List Nat} {L : List (List D)} {thing : D} (B : Bg h a g m N) (hN : N + 10 ≤ 1000000000) (A : RA b h r rs L) (ab : a < b ∧ g < b ∧ m < b) (G : Gd k L) (hk : k ≤ 1000) (tv : V0 thing) (ta : Al 3 thing) :
    ∃ (r' : Nat) (h' : AH) (rs' : List Nat) (L' : List (List D)), c__law_put [.ref a, .ref r, thing] h = .ok (.ref r') h' ∧ RA b h' r' rs' L' ∧ Aft a g m (N + 2) h h' ∧ Gd (k + 1) L' ∧ L'.flatten.Perm (thing :: L.flatten) := by
  have rl := A.len
  have Ll := G.1
  have rb := A.br
  have rlt := A.lt
  obtain ⟨s, h1, w1, hs, A1, L1⟩ := takeA B (by omega) (s := rs.length + 1) (by omega) (by omega)
  have RA1 := A.ev A1.ev ab.1 ab.2.1
  have rf1 := RA1.rf
  have rf0 := A.rf
  have cs : ((rs.length : Int) + 1) = ((rs.length + 1 : Nat) : Int) := rfl
  have lrs : (rs.map D.ref).length = rs.length := by simp
  have s1 : sSet 3 (eCall (argn 2 c__law_take) (lCons (eVar 0) (lCons (eOp oAdd (eCall cLen (lCons (eVar 1) lNil)) (eC (.int 1))) lNil))) [some (.ref a), some (.ref r), some thing, none, none, none] h = .nx [some (.ref a), some (.ref r), some thing, some (.int s), none, none] h1 := by
    generalize rs.map D.ref = rsd at *
    simp [rf0, lrs, cs, w1, -Int.natCast_add]
  have deep : ∀ (i : Nat) (h' : AH) (xs : List Nat), h'[i]? = some (.lst (xs.map D.ref)) → xs ≠ [] → gc h (.ok (.ref i) h') = .ok (.ref i) h' := fun i h' xs e ne => gc_deep e (by
    cases xs with
    | nil => exact absurd rfl ne
    | cons y ys => rfl)
  have fin : ∀ (i : Nat) (h' : AH) (xs : List Nat) (K : List (List D)), m__law_put [some (.ref a), some (.ref r), some thing, none, none, none] h = .rt (.ref i) h' → RA b h' i xs K → xs ≠ [] → Aft a g m (N + 2) h h' → Gd (k + 1) K → K.flatten.Perm (thing :: L.flatten) →
      ∃ (r' : Nat) (h' : AH) (rs' : List Nat) (L' : List (List D)), c__law_put [.ref a, .ref r, thing] h = .ok (.ref r') h' ∧ RA b h' r' rs' L' ∧ Aft a g m (N + 2) h h' ∧ Gd (k + 1) L' ∧ L'.flatten.Perm (thing :: L.flatten) := fun i h' xs K e R ne X Gk pm => by
    refine ⟨i, h', xs, K, ?_, R, X, Gk, pm⟩
    show gc h (outS (m__law_put [some (.ref a), some (.ref r), some thing, none, none, none] h)) = _
    rw [e]
    exact deep i h' xs R.rf ne
  by_cases e : s = rs.length
  · -- a new cycle
    obtain ⟨H2, hH2⟩ : ∃ H2, H2 = h1 ++ [AO.lst [thing], AO.lst [.ref h1.length]] := ⟨_, rfl⟩
    have l2 : H2.length = h1.length + 2 := by rw [hH2]; simp
    have g1 : H2[r]? = some (.lst (rs.map D.ref)) := by rw [hH2]; exact app_get_l rf1
    have g2 : H2[h1.length + 1]? = some (.lst [.ref h1.length]) := by rw [hH2, app_get]; rfl
    have ad := add_new g1 g2 (by simp; omega)
    have er : rs.map D.ref ++ [.ref h1.length] = (rs ++ [h1.length]).map D.ref := by simp
    rw [er] at ad
    refine fin H2.length (H2 ++ [.lst ((rs ++ [h1.length]).map D.ref)]) (rs ++ [h1.length]) (L ++ [[thing]]) ?_ (RA.mkNew (H := h) (rs := rs) (L := L) (by simp) (by omega) (fun x hx => ?_) ?_) (by simp) (by rw [hH2]; exact ((A1.app _).app _).mono (by omega)) ⟨by simp; omega, fun l hl => ?_⟩ ?_
    · unfold m__law_put
      refine sqR s1 ?_
      have e2 : (s : Int) = (rs.length : Int) := by omega
      have ld : eLst (lCons (eLst (lCons (eVar 2) lNil)) lNil) [some (.ref a), some (.ref r), some thing, some (.int s), none, none] h1 = .ok (.ref (h1.length + 1)) H2 := by
        rw [hH2]; simp
      rw [e] at ld
      generalize (rs ++ [h1.length]).map D.ref = X at *
      generalize H2 ++ [AO.lst X] = H3 at *
      generalize rs.map D.ref = rsd at *
      simp [rf1, lrs, e, ld, ad, -eLst_]
    · rcases List.mem_append.mp hx with z | z
      · exact ⟨A.bs x z, by have := rlt.2 x z; omega⟩
      · rw [List.mem_singleton] at z; omega
    · rw [List.map_append, List.map_append, hH2, List.append_assoc, RA1.at' _]
      congr 1
      simp
    · rcases List.mem_append.mp hl with z | z
      · exact ⟨by have := (G.2 l z).1; omega, (G.2 l z).2⟩
      · rw [List.mem_singleton] at z
        subst z
        exact ⟨by simp, fun d hd => by rw [List.mem_singleton] at hd; subst hd; exact ⟨tv, ta⟩⟩
    · rw [List.flatten_append]
      simp only [List.flatten_cons, List.flatten_nil, List.append_nil]
      exact List.perm_append_comm
  · -- into an old one
    have sl : s < L.length := by omega
    obtain ⟨y, ey, yb, gy⟩ := RA1.get sl
    obtain ⟨l, hl⟩ : ∃ l, l = L.getD s [] := ⟨_, rfl⟩
    rw [← hl] at gy
    have lm : l ∈ L := by rw [hl, List.getD_eq_getElem?_getD, List.getElem?_eq_getElem sl]; exact List.getElem_mem sl
    have ll := (G.2 l lm).1
    obtain ⟨t, h2, w2, ht, A2, L2⟩ := takeA A1.bg (by omega) (s := l.length + 1) (by omega) (by omega)
    have RA2 := RA1.ev A2.ev ab.1 ab.2.1
    have gy2 : h2[y]? = some (.lst l) := A2.ev.get gy (by omega) (by omega)
    have rf2 := RA2.rf
    have rlt2 := RA2.lt
    obtain ⟨E, hE⟩ : ∃ E : AE, E = [some (.ref a), some (.ref r), some thing, some (.int s), some (.ref y), some (.int t)] := ⟨_, rfl⟩
    have f1 : ∀ H : AH, H[r]? = some (.lst (rs.map D.ref)) → eSl (eVar 1) none (some (eVar 3)) E H = .ok (.ref H.length) (H ++ [.lst ((rs.take s).map D.ref)]) := fun H e => by
      have c : cutD (rs.map D.ref) none (some (s : Int)) = (rs.take s).map D.ref := by rw [cutD_to, List.map_take]
      rw [hE]
      generalize rs.map D.ref = rsd at *
      simp [e, c]
    have f2 : ∀ H : AH, H[y]? = some (.lst l) → eSl (eVar 4) none (some (eVar 5)) E H = .ok (.ref H.length) (H ++ [.lst (l.take t)]) := fun H e => by
      have c : cutD l none (some (t : Int)) = l.take t := cutD_to l t
      rw [hE]
      simp [e, c]
    have f3 : ∀ H : AH, eLst (lCons (eVar 2) lNil) E H = .ok (.ref H.length) (H ++ [.lst [thing]]) := fun H => by rw [hE]; simp
    have f4 : ∀ H : AH, H[y]? = some (.lst l) → eSl (eVar 4) (some (eVar 5)) none E H = .ok (.ref H.length) (H ++ [.lst (l.drop t)]) := fun H e => by
      have c : cutD l (some (t : Int)) none = l.drop t := cutD_from l t
      rw [hE]
      simp [e, c]
    have f5 : ∀ H : AH, H[r]? = some (.lst (rs.map D.ref)) → eSl (eVar 1) (some (eOp oAdd (eVar 3) (eC (.int 1)))) none E H = .ok (.ref H.length) (H ++ [.lst ((rs.drop (s + 1)).map D.ref)]) := fun H e => by
      have cc : ((s : Int) + 1) = ((s + 1 : Nat) : Int) := rfl
      have c : cutD (rs.map D.ref) (some ((s + 1 : Nat) : Int)) none = (rs.drop (s + 1)).map D.ref := by rw [cutD_from, List.map_drop]
      rw [hE]
      generalize rs.map D.ref = rsd at *
      simp [e, cc, c, -Int.natCast_add]
    obtain ⟨K1, hK1⟩ : ∃ K, K = h2 ++ [AO.lst ((rs.take s).map D.ref)] := ⟨_, rfl⟩
    obtain ⟨K2, hK2⟩ : ∃ K, K = K1 ++ [AO.lst (l.take t)] := ⟨_, rfl⟩
    obtain ⟨K3, hK3⟩ : ∃ K, K = K2 ++ [AO.lst [thing]] := ⟨_, rfl⟩
    obtain ⟨K4, hK4⟩ : ∃ K, K = K3 ++ [AO.lst (l.take t ++ [thing])] := ⟨_, rfl⟩
    obtain ⟨K5, hK5⟩ : ∃ K, K = K4 ++ [AO.lst (l.drop t)] := ⟨_, rfl⟩
    obtain ⟨K6, hK6⟩ : ∃ K, K = K5 ++ [AO.lst (l.take t ++ [thing] ++ l.drop t)] := ⟨_, rfl⟩
    obtain ⟨K7, hK7⟩ : ∃ K, K = K6 ++ [AO.lst [.ref K5.length]] := ⟨_, rfl⟩
    obtain ⟨K8, hK8⟩ : ∃ K, K = K7 ++ [AO.lst ((rs.take s).map D.ref ++ [.ref K5.length])] := ⟨_, rfl⟩
    obtain ⟨K9, hK9⟩ : ∃ K, K = K8 ++ [AO.lst ((rs.drop (s + 1)).map D.ref)] := ⟨_, rfl⟩
    obtain ⟨K10, hK10⟩ : ∃ K, K = K9 ++ [AO.lst ((rs.take s).map D.ref ++ [.ref K5.length] ++ (rs.drop (s + 1)).map D.ref)] := ⟨_, rfl⟩
    have last : ∀ (K : AH) (o : AO), (K ++ [o])[K.length]? = some o := fun K o => by simp
    have old : ∀ {K K' : AH} {o : AO} {i : Nat} {x : AO}, K' = K ++ [o] → K[i]? = some x → K'[i]? = some x := fun e1 e2 => by rw [e1]; exact app_get_l e2
    have a1 := add_new (r := K1.length) (q := K2.length) (h := K3) (xs := l.take t) (ys := [thing]) (old hK3 (by rw [hK2]; exact last _ _)) (by rw [hK3]; exact last _ _) (by simp; omega)
    have a2 := add_new (r := K3.length) (q := K4.length) (h := K5) (xs := l.take t ++ [thing]) (ys := l.drop t) (old hK5 (by rw [hK4]; exact last _ _)) (by rw [hK5]; exact last _ _) (by simp; omega)
    have a3 := add_new (r := h2.length) (q := K6.length) (h := K7) (xs := (rs.take s).map D.ref) (ys := [.ref K5.length]) (old hK7 (old hK6 (old hK5 (old hK4 (old hK3 (old hK2 (by rw [hK1]; exact last _ _))))))) (by rw [hK7]; exact last _ _) (by simp; omega)
    have a4 := add_new (r := K7.length) (q := K8.length) (h := K9) (xs := (rs.take s).map D.ref ++ [.ref K5.length]) (ys := (rs.drop (s + 1)).map D.ref) (old hK9 (by rw [hK8]; exact last _ _)) (by rw [hK9]; exact last _ _) (by simp; omega)
    rw [← hK4] at a1
    rw [← hK6] at a2
    rw [← hK8] at a3
    rw [← hK10] at a4
    have r1 : K1[r]? = some (.lst (rs.map D.ref)) := old hK1 rf2
    have y1 : K1[y]? = some (.lst l) := old hK1 gy2
    have y4 : K4[y]? = some (.lst l) := old hK4 (old hK3 (old hK2 y1))
    have r8 : K8[r]? = some (.lst (rs.map D.ref)) := old hK8 (old hK7 (old hK6 (old hK5 (old hK4 (old hK3 (old hK2 r1))))))
    have F1 := f1 h2 rf2
    rw [← hK1] at F1
    have F2 := f2 K1 y1
    rw [← hK2] at F2
    have F3 := f3 K2
    rw [← hK3] at F3
    have F4 := f4 K4 y4
    rw [← hK5] at F4
    have F5 := f5 K8 r8
    rw [← hK9] at F5
    have F6 : eLst (lCons (eOp oAdd (eOp oAdd (eSl (eVar 4) none (some (eVar 5))) (eLst (lCons (eVar 2) lNil))) (eSl (eVar 4) (some (eVar 5)) none)) lNil) E K1 = .ok (.ref K6.length) K7 := by
      rw [eLst_, lCons_, eOp_, eOp_, F2, then_ok, F3, then_ok, a1, then_ok, F4, then_ok, a2, hK7]
      simp
    have F7 : eOp oAdd (eOp oAdd (eSl (eVar 1) none (some (eVar 3))) (eLst (lCons (eOp oAdd (eOp oAdd (eSl (eVar 4) none (some (eVar 5))) (eLst (lCons (eVar 2) lNil))) (eSl (eVar 4) (some (eVar 5)) none)) lNil))) (eSl (eVar 1) (some (eOp oAdd (eVar 3) (eC (.int 1)))) none) E h2 = .ok (.ref K9.length) K10 := by
      rw [eOp_, eOp_, F1, then_ok, F6, then_ok, a3, then_ok, F5, then_ok, a4]
    obtain ⟨gg, hgg⟩ : ∃ gg, K10 = h2 ++ gg := ⟨[AO.lst ((rs.take s).map D.ref)] ++ [AO.lst (l.take t)] ++ [AO.lst [thing]] ++ [AO.lst (l.take t ++ [thing])] ++ [AO.lst (l.drop t)] ++ [AO.lst (l.take t ++ [thing] ++ l.drop t)] ++ [AO.lst [.ref K5.length]] ++ [AO.lst ((rs.take s).map D.ref ++ [.ref K5.length])] ++ [AO.lst ((rs.drop (s + 1)).map D.ref)] ++ [AO.lst ((rs.take s).map D.ref ++ [.ref K5.length] ++ (rs.drop (s + 1)).map D.ref)], by
      rw [hK10]
      conv => lhs; rw [hK9, hK8, hK7, hK6]
      generalize K5.length = z
      rw [hK5, hK4, hK3, hK2, hK1]
      simp⟩
    have l5 : K5.length = h2.length + 5 := by rw [hK5, hK4, hK3, hK2, hK1]; simp
    have l9 : K9.length = h2.length + 9 := by rw [hK9, hK8, hK7, hK6]; simp; omega
    have G5 : K10[K5.length]? = some (.lst (l.take t ++ [thing] ++ l.drop t)) := old hK10 (old hK9 (old hK8 (old hK7 (by rw [hK6]; exact last _ _))))
    refine fin K9.length K10 (rs.take s ++ [K5.length] ++ rs.drop (s + 1)) (L.take s ++ [l.take t ++ [thing] ++ l.drop t] ++ L.drop (s + 1)) ?_ (RA.mkNew (H := h) (rs := rs) (L := L) (by rw [hK10, last]; simp) (by have := A2.ev.le; have := A1.ev.le; omega) (fun x hx => ?_) ?_) (by simp) (by rw [hgg]; exact ((A1.step A2).app _).mono (by omega)) ⟨?_, fun l' hl' => ?_⟩ ?_
    · unfold m__law_put
      refine sqR s1 ?_
      have e2 : ¬ (s : Int) = (rs.length : Int) := by omega
      have cl : ((l.length : Int) + 1) = ((l.length + 1 : Nat) : Int) := rfl
      have ix : ∀ h, ixD (rs.map D.ref) (s : Int) h = .ok (.ref y) h := fun h => ixD_map ey
      refine sqR (e1 := [some (.ref a), some (.ref r), some thing, some (.int s), none, none]) (h1 := h1) (by
        generalize rs.map D.ref = rsd at *
        simp [rf1, lrs, e, e2]) ?_
      refine sqR (e1 := [some (.ref a), some (.ref r), some thing, some (.int s), some (.ref y), none]) (h1 := h1) (by
        generalize rs.map D.ref = rsd at *
        simp [rf1, ix]) ?_
      refine sqR (e1 := E) (h1 := h2) (by
        rw [hE]
        simp [gy, cl, w2, -Int.natCast_add]) ?_
      rw [sRet_, F7]; rfl
    · rw [List.append_assoc] at hx
      rcases List.mem_append.mp hx with z | z
      · have := List.mem_of_mem_take z
        exact ⟨A.bs x this, by have := rlt2.2 x this; omega⟩
      · rcases List.mem_append.mp z with z | z
        · rw [List.mem_singleton] at z; omega
        · have := List.mem_of_mem_drop z
          exact ⟨A.bs x this, by have := rlt2.2 x this; omega⟩
    · rw [List.map_append, List.map_append, List.map_append, List.map_append]
      have q1 := RA2.takeAt gg s
      have q2 := RA2.dropAt gg (s + 1)
      rw [← hgg] at q1 q2
      rw [q1, q2]
      congr 2
      simp only [List.map_cons, List.map_nil]
      rw [G5]
    · simp; omega
    · rw [List.append_assoc] at hl'
      rcases List.mem_append.mp hl' with z | z
      · have := List.mem_of_mem_take z
        exact ⟨by have := (G.2 l' this).1; omega, (G.2 l' this).2⟩
      · rcases List.mem_append.mp z with z | z
        · rw [List.mem_singleton] at z
          subst z
          refine ⟨by simp; omega, fun d hd => ?_⟩
          rw [List.append_assoc] at hd
          rcases List.mem_append.mp hd with z | z
          · exact (G.2 l lm).2 d (List.mem_of_mem_take z)
          · rcases List.mem_append.mp z with z | z
            · rw [List.mem_singleton] at z; subst z; exact ⟨tv, ta⟩
            · exact (G.2 l lm).2 d (List.mem_of_mem_drop z)
        · have := List.mem_of_mem_drop z
          exact ⟨by have := (G.2 l' this).1; omega, (G.2 l' this).2⟩
    · have eL : L = L.take s ++ [l] ++ L.drop (s + 1) := by
        have hlq : L[s] = l := by rw [hl, List.getD_eq_getElem?_getD, List.getElem?_eq_getElem sl]; rfl
        conv => lhs; rw [← List.take_append_drop s L, List.drop_eq_getElem_cons sl, hlq]
        simp
      conv => rhs; rw [eL]
      simp only [List.flatten_append, List.flatten_cons, List.flatten_nil, List.append_nil]
      have p1 : (l.take t ++ [thing] ++ l.drop t).Perm (thing :: l) := by
        conv => rhs; rw [← List.take_append_drop t l]
        rw [List.append_assoc]
        exact List.perm_middle
      have p2 : ((L.take s).flatten ++ (l.take t ++ [thing] ++ l.drop t) ++ (L.drop (s + 1)).flatten).Perm ((L.take s).flatten ++ (thing :: l) ++ (L.drop (s + 1)).flatten) := (List.Perm.append_left _ p1).append_right _
      refine p2.trans ?_
      rw [List.append_assoc, List.append_assoc, List.cons_append]
      exact List.perm_middle
end Law

set_option maxHeartbeats 1000000
/-! _law_without -/
namespace Law
open PySem Rf L2
/-- rows of numbers -/
def Gn (k : Nat) (P : List (List Nat)) : Prop := P.length ≤ k ∧ ∀ l ∈ P, l.length ≤ k
theorem Gn.gd {k : Nat} {P : List (List Nat)} (G : Gn k P) : Gd k (P.map fun l => l.map dN) := ⟨by simpa using G.1, fun l hl => by
  obtain ⟨p, hp, rfl⟩ := List.mem_map.mp hl
  refine ⟨by simpa using G.2 p hp, fun d hd => ?_⟩
  obtain ⟨x, _, rfl⟩ := List.mem_map.mp hd
  exact ⟨.inl trivial, al_N⟩⟩
theorem without_spec {b r a g m N k v : Nat} {h : AH} {rs : List Nat} {P : List (List Nat)} (B : Bg h a g m N) (A : RA b h r rs (P.map fun l => l.map dN)) (G : Gn k P) (hk : k ≤ 1000) :
    ∃ (r' : Nat) (h' : AH) (rs' : List Nat) (Q : List (List Nat)), c__law_without [.ref r, .int v] h = .ok (.ref r') h' ∧ RA h.length h' r' rs' (Q.map fun l => l.map dN) ∧ Aft a g m N h h' ∧ Gn k Q := by
  have rl := A.len
  rw [List.length_map] at rl
  have Gl := G.1
  obtain ⟨q, hq⟩ : ∃ q, q = h.length := ⟨_, rfl⟩
  obtain ⟨e', h', w, x3, x4, x5, rs2, Q, gg, rfl, rfl, A2, GQ, ql⟩ := liveL_inv (g := gVar 3) (b := lb__law_without_1) (r := r) (ds := rs.map D.ref)
    (fun i e h' => ∃ (x3 x4 x5 : Option D) (rs2 : List Nat) (Q : List (List Nat)) (gg : AH), e = [some (.ref r), some (.int v), some (.ref q), x3, x4, x5] ∧ h' = h ++ gg ∧ RA h.length (h ++ gg) q rs2 (Q.map fun l => l.map dN) ∧ (∀ l ∈ Q, l.length ≤ k) ∧ Q.length ≤ i)
    (by rintro i e h' ⟨_, _, _, _, _, gg, _, rfl, _⟩; exact app_get_l A.rf)
    (e := [some (.ref r), some (.int v), some (.ref q), none, none, none]) (h := h ++ [.lst []]) ⟨none, none, none, [], [], [.lst []], rfl, rfl, by rw [hq]; exact RA.new h.length h (Nat.le_refl _), by simp, by simp⟩ (by
      rintro i d e h' hd ⟨x3, x4, x5, rs2, Q, gg, rfl, rfl, A2, GQ, ql⟩
      have il : i < rs.length := by have := (List.getElem?_eq_some_iff.mp hd).1; simpa using this
      have il2 : i < (P.map fun l => l.map dN).length := by rw [List.length_map, ← rl]; exact il
      have il3 : i < P.length := by omega
      obtain ⟨y, ey, yb, gy⟩ := A.get il2
      rw [List.getElem?_map, ey] at hd
      have hd : D.ref y = d := Option.some.inj hd
      subst hd
      have el : (P.map fun l => l.map dN).getD i [] = (P[i]).map dN := by
        rw [List.getD_eq_getElem?_getD, List.getElem?_map, List.getElem?_eq_getElem il3]; rfl
      rw [el] at gy
      have lk := G.2 _ (List.getElem_mem il3)
      generalize P[i] = l at *
      obtain ⟨H, hH⟩ : ∃ H, H = h ++ gg := ⟨_, rfl⟩
      have gyH : H[y]? = some (.lst (l.map dN)) := by rw [hH]; exact app_get_l gy
      rw [← hH] at A2 ⊢
      obtain ⟨l', hl'⟩ : ∃ l', l' = l.filter fun x => !(x == v) := ⟨_, rfl⟩
      have lc : lc__law_without_1 [some (.ref r), some (.int v), some (.ref q), some (.ref y), x4, x5] H = .ok (.ref H.length) (H ++ [.lst (l'.map dN)]) := by
        unfold lc__law_without_1
        have z := eLc_pureL (φ := dN) (k := 5) (r := y) (mi := iVal (eVar 3)) (tt := eOp oNe (eVar 5) (eVar 1)) (te := eVar 5) (vs := [5]) (e := [some (.ref r), some (.int v), some (.ref q), some (.ref y), x4, x5]) (h := H) (h1 := H) l (fun x => !(x == v)) dN
          (by
            have := iVal_ref (m := eVar 3) (e := [some (.ref r), some (.int v), some (.ref q), some (.ref y), x4, x5]) (h := H) (h1 := H) (r := y) (ds := l.map dN) (by simp) gyH
            simpa using this) gyH (by rw [sizeLine_eq]; omega) (fun x _ => by simp [wipeE, dN]) (fun x _ => by simp [wipeE])
        rw [z, hl']
      have GL : (H ++ [AO.lst (l'.map dN)])[H.length]? = some (.lst (l'.map dN)) := by simp
      have tt := truth_lst GL
      have A3 := A2.app [.lst (l'.map dN)]
      have qH : q < H.length := A2.lt.1
      have l'k : l'.length ≤ k := by rw [hl']; exact Nat.le_trans (List.length_filter_le _ _) lk
      by_cases z : l' = []
      · refine ⟨[some (.ref r), some (.int v), some (.ref q), some (.ref y), some (.ref H.length), x5], H ++ [.lst (l'.map dN)], ?_, _, _, _, rs2, Q, gg ++ [.lst (l'.map dN)], rfl, by rw [hH, List.append_assoc], by rw [← List.append_assoc, ← hH]; exact A3, GQ, by omega⟩
        show lb__law_without_1 [some (.ref r), some (.int v), some (.ref q), some (.ref y), x4, x5] H = _
        unfold lb__law_without_1
        refine sqR (e1 := [some (.ref r), some (.int v), some (.ref q), some (.ref y), some (.ref H.length), x5]) (h1 := H ++ [.lst (l'.map dN)]) (by rw [sSet_, lc]; rfl) ?_
        rw [z] at tt ⊢
        generalize H ++ [AO.lst (([] : List Nat).map dN)] = H2 at *
        generalize H.length = u at *
        simp [tt]
      · have A4 := A3.push GL (by omega) (by omega)
        have ne : (l'.map dN).isEmpty = false := by
          cases hc : l' with
          | nil => exact absurd hc z
          | cons x l => rfl
        rw [ne] at tt
        have rf3 := A3.rf
        have r2 := A2.len
        rw [List.length_map] at r2
        have ap : ∀ v H, appO (some (.lst (rs2.map D.ref))) q v H = .ok .non (H.set q (.lst (rs2.map D.ref ++ [v]))) := fun v H => appO_lst (by rw [List.length_map, sizeLine_eq]; omega)
        obtain ⟨g2, hg2⟩ := app_set_ex (h := h) (g := gg ++ [.lst (l'.map dN)]) (i := q) (o := .lst (rs2.map D.ref ++ [.ref H.length])) (by omega)
        rw [← List.append_assoc, ← hH] at hg2
        refine ⟨[some (.ref r), some (.int v), some (.ref q), some (.ref y), some (.ref H.length), x5], (H ++ [AO.lst (l'.map dN)]).set q (AO.lst (rs2.map D.ref ++ [D.ref H.length])), ?_, _, _, _, rs2 ++ [H.length], Q ++ [l'], g2, rfl, hg2, by rw [← hg2, List.map_append]; exact A4, fun l hl => ?_, by simp; omega⟩
        · show lb__law_without_1 [some (.ref r), some (.int v), some (.ref q), some (.ref y), x4, x5] H = _
          unfold lb__law_without_1
          refine sqR (e1 := [some (.ref r), some (.int v), some (.ref q), some (.ref y), some (.ref H.length), x5]) (h1 := H ++ [.lst (l'.map dN)]) (by rw [sSet_, lc]; rfl) ?_
          have ty : tyOk (H ++ [AO.lst (l'.map dN)]) "list" (.ref q) = true := by simp only [tyOk_ref_, rf3]; rfl
          generalize H ++ [AO.lst (l'.map dN)] = H2 at *
          generalize rs2.map D.ref = rd at *
          generalize H.length = u at *
          simp [tt, ty, rf3, ap]
        · rcases List.mem_append.mp hl with y | y
          · exact GQ l y
          · rw [List.mem_singleton] at y; subst y; exact l'k)
  rw [List.length_map] at ql
  have Aft0 : Aft a g m N h (h ++ gg) := (⟨B, .refl _ _ _⟩ : Aft a g m N h h).app gg
  rw [← hq] at A2
  obtain ⟨r9, h9, w9, RA9, A9⟩ := gc_aft_RA B.lt Aft0 (by rw [← hq]; exact A2)
  refine ⟨r9, h9, rs2, Q, ?_, RA9, A9, by omega, GQ⟩
  rw [← w9]
  show gc h (outS (m__law_without [some (.ref r), some (.int v), none, none, none, none] h)) = _
  have key : m__law_without [some (.ref r), some (.int v), none, none, none, none] h = .rt (.ref q) (h ++ gg) := by
    unfold m__law_without
    refine sqR (e1 := [some (.ref r), some (.int v), some (.ref q), none, none, none]) (h1 := h ++ [.lst []]) (by simp [hq]) ?_
    refine sqR (e1 := [some (.ref r), some (.int v), some (.ref q), x3, x4, x5]) (h1 := h ++ gg) (by
      have rf0 : (h ++ [AO.lst []])[r]? = some (.lst (rs.map D.ref)) := app_get_l A.rf
      rw [sFor_val]
      simp only [eVar_, List.getElem?_cons_zero, forV_ref, rf0, forO_lst]
      exact w) ?_
    simp
  rw [key]; rfl
end Law

set_option maxHeartbeats 1000000
/-! _law_spoilt -/
namespace Law
open PySem Rf L2
theorem ixD_get' {ds : List D} {i : Nat} (hi : i < ds.length) (h : AH) : ixD ds (i : Int) h = .ok (ds.getD i .non) h := by
  rw [List.getD_eq_getElem?_getD, List.getElem?_eq_getElem hi]
  exact ixD_some (List.getElem?_eq_getElem hi)
theorem str_all : ((List.range 100).all fun v => PyData.strOk (Str.ofString (toString ((v : Nat) : Int))) && decide (((v : Nat) : Int).natAbs.log2 < 1920)) = true := by decide +kernel
theorem cStr_N {v : Nat} (hv : v < 100) (h : AH) : cStr [.int (v : Int)] h = .ok (.str (Str.ofString (toString (v : Int)))) h ∧ PyData.strOk (Str.ofString (toString (v : Int))) = true := by
  have := List.all_eq_true.mp str_all v (List.mem_range.mpr hv)
  rw [Bool.and_eq_true] at this
  refine ⟨?_, this.1⟩
  unfold cStr
  dsimp only
  rw [if_pos (of_decide_eq_true this.2)]
section
variable {n k : Nat} {L : List (List D)}
theorem gd_al (G : Gd k L) (hk : k ≤ 1000) : Al 5 (.tup (L.map D.tup)) := ⟨by rw [List.length_map]; have := G.1; omega, fun d hd => by
  obtain ⟨l, hl, rfl⟩ := List.mem_map.mp hd
  have := G.2 l hl
  exact ⟨by omega, fun d hd => (this.2 d hd).2⟩⟩
theorem bad_of (G : Gd k L) (hk : k ≤ 1000) (hn : n ≤ 1000) (no : ¬ VaC n (L.map D.tup)) (h : AH) : c__are_cycles [.tup (L.map D.tup), dN n] h = .ok (.bl false) h := by
  obtain ⟨b, w, iff⟩ := are_tup (cs := L.map D.tup) (fun c hc => by
    obtain ⟨l, hl, rfl⟩ := List.mem_map.mp hc
    have := G.2 l hl
    exact .inr ⟨l, rfl, by omega, fun v hv => (this.2 v hv).1⟩) hn (h := h)
  cases b with
  | false => exact w
  | true => exact absurd (iff.mp rfl) no
theorem VaC.rows (v : VaC n (L.map D.tup)) : ∃ Q : List (List Nat), L = (Q.map fun l => l.map dN) ∧ OkC n Q := by
  obtain ⟨Q, e, ok⟩ := v
  refine ⟨Q, ?_, ok⟩
  have : (L.map D.tup) = (Q.map fun l => l.map dN).map D.tup := by rw [e, tup_dC]
  exact (List.map_inj_right (fun x y h => by injection h)).mp this
theorem flat_dN (Q : List (List Nat)) : (Q.map fun l => l.map dN).flatten = Q.flatten.map dN := by rw [List.map_flatten]
theorem nv_mem {d : D} (hd : d ∈ L.flatten) (no : ∀ x, x < n → d ≠ dN x) : ¬ VaC n (L.map D.tup) := fun v => by
  obtain ⟨Q, rfl, _, _, lt⟩ := v.rows
  rw [flat_dN] at hd
  obtain ⟨x, hx, rfl⟩ := List.mem_map.mp hd
  exact no x (lt x hx) rfl
theorem nodup_dN {l : List Nat} (h : l.Nodup) : (l.map dN).Nodup := by
  show List.Pairwise _ _
  rw [List.pairwise_map]
  exact h.imp fun {a b} ne e => ne (by unfold dN at e; injection e with e; omega)
theorem nv_dup {d : D} {R : List D} (p : L.flatten.Perm (d :: d :: R)) : ¬ VaC n (L.map D.tup) := fun v => by
  obtain ⟨Q, rfl, _, nd, _⟩ := v.rows
  rw [flat_dN] at p
  have := p.nodup_iff.mp (nodup_dN nd)
  exact (List.nodup_cons.mp this).1 (by simp)
theorem nv_nil (h : [] ∈ L) : ¬ VaC n (L.map D.tup) := fun v => by
  obtain ⟨Q, rfl, ne, _⟩ := v.rows
  obtain ⟨l, hl, e⟩ := List.mem_map.mp h
  exact ne l hl (by cases l with
    | nil => rfl
    | cons _ _ => simp at e)
theorem nv_at {cs : List D} {i : Nat} {c : D} (h : cs[i]? = some c) (no : ∀ l, c ≠ dC l) : ¬ VaC n cs := by
  rintro ⟨Q, rfl, _⟩
  rw [List.getElem?_map] at h
  obtain ⟨l, _, e⟩ := Option.map_eq_some_iff.mp h
  exact no l e.symm
theorem bad_at {cs : List D} (hw : ∀ c ∈ cs, Vd c) (hn : n ≤ 1000) {i : Nat} {c : D} (e : cs[i]? = some c) (no : ∀ l, c ≠ dC l) (h : AH) : c__are_cycles [.tup cs, dN n] h = .ok (.bl false) h := by
  obtain ⟨b, w, iff⟩ := are_tup hw hn (h := h)
  cases b with
  | false => exact w
  | true => exact absurd (iff.mp rfl) (nv_at e no)
end
/-- what is refused, and like itself -/
def Bad (n : Nat) (d : D) : Prop := (∀ H, c__are_cycles [d, dN n] H = .ok (.bl false) H) ∧ Al 5 d
theorem Bad.flat {n : Nat} {d : D} (b : B0 d) (a : Al 5 d) : Bad n d := ⟨fun H => are_flat b, a⟩
def oddL : List D := [.non, .bl true, .int 0, .str (Str.ofString "()"), .str (Str.ofString ""), .tup [.int 0], .tup [.tup [.int 0], .int 0], .tup [.str (Str.ofString "0")], .tup [.tup [.tup [.int 0]]], .str (Str.ofString "(0)"), .tup [.non]]
theorem odd_bad {n : Nat} (hn : n ≤ 1000) : ∀ d ∈ oddL, Bad n d ∧ d.pure = true := by
  have s1 : PyData.strOk (Str.ofString "()") = true := by decide +kernel
  have s2 : PyData.strOk (Str.ofString "") = true := by decide +kernel
  have s3 : PyData.strOk (Str.ofString "0") = true := by decide +kernel
  have s4 : PyData.strOk (Str.ofString "(0)") = true := by decide +kernel
  have t1 : ∀ (d : D) (k : Nat), Al k d → Al (k + 1) (.tup [d]) := fun d k h => ⟨by simp, fun x hx => by rw [List.mem_singleton] at hx; subst hx; exact h⟩
  intro d hd
  unfold oddL at hd
  simp only [List.mem_cons, List.not_mem_nil, or_false] at hd
  rcases hd with rfl | rfl | rfl | rfl | rfl | rfl | rfl | rfl | rfl | rfl | rfl
  · exact ⟨.flat trivial trivial, rfl⟩
  · exact ⟨.flat trivial trivial, rfl⟩
  · exact ⟨.flat trivial trivial, rfl⟩
  · exact ⟨.flat trivial s1, rfl⟩
  · exact ⟨.flat trivial s2, rfl⟩
  · exact ⟨⟨bad_at (by intro c hc; rw [List.mem_singleton] at hc; subst hc; exact .inl trivial) hn (i := 0) rfl (by intro l e; unfold dC at e; cases e), t1 _ 4 trivial⟩, rfl⟩
  · refine ⟨⟨bad_at ?_ hn (i := 1) rfl (by intro l e; unfold dC at e; cases e), ⟨by simp, fun x hx => ?_⟩⟩, rfl⟩
    · intro c hc
      simp only [List.mem_cons, List.not_mem_nil, or_false] at hc
      rcases hc with rfl | rfl
      · exact .inr ⟨_, rfl, by simp, fun v hv => by rw [List.mem_singleton] at hv; subst hv; exact .inl trivial⟩
      · exact .inl trivial
    · simp only [List.mem_cons, List.not_mem_nil, or_false] at hx
      rcases hx with rfl | rfl
      · exact t1 _ 3 trivial
      · trivial
  · exact ⟨⟨bad_at (by intro c hc; rw [List.mem_singleton] at hc; subst hc; exact .inl trivial) hn (i := 0) rfl (by intro l e; unfold dC at e; cases e), t1 _ 4 s3⟩, rfl⟩
  · refine ⟨⟨bad_at ?_ hn (i := 0) rfl (by
      intro l e
      unfold dC at e
      injection e with e
      cases l with
      | nil => simp at e
      | cons x l => simp [dN] at e), t1 _ 4 (t1 _ 3 (t1 _ 2 trivial))⟩, rfl⟩
    intro c hc
    rw [List.mem_singleton] at hc
    subst hc
    exact .inr ⟨_, rfl, by simp, fun v hv => by rw [List.mem_singleton] at hv; subst hv; exact .inr ⟨_, rfl, rfl⟩⟩
  · exact ⟨.flat trivial s4, rfl⟩
  · exact ⟨⟨bad_at (by intro c hc; rw [List.mem_singleton] at hc; subst hc; exact .inl trivial) hn (i := 0) rfl (by intro l e; unfold dC at e; cases e), t1 _ 4 trivial⟩, rfl⟩
end Law

set_option maxHeartbeats 1000000
/-! _law_spoilt -/
namespace Law
open PySem Rf L2
theorem spoilt_spec {b r a g m N n : Nat} {h : AH} {rs : List Nat} {P : List (List Nat)} (B : Bg h a g m N) (hN : N + 20 ≤ 1000000000) (A : RA b h r rs (P.map fun l : List Nat => l.map dN)) (ab : a < b ∧ g < b ∧ m < b) (G : Gn 100 P) (ne : ∀ l ∈ P, l ≠ []) (n1 : 1 ≤ n) (n2 : n ≤ 60) :
    ∃ (d : D) (h' : AH), c__law_spoilt [.ref a, .ref r, dN n] h = .ok d h' ∧ Aft a g m (N + 10) h h' ∧ Bad n d := by
  have rl := A.len
  rw [List.length_map] at rl
  have Gl := G.1
  have ll := B.lt
  have rlt := A.lt
  have rb := A.br
  have fin : ∀ (d : D) (h' : AH), m__law_spoilt [some (.ref a), some (.ref r), some (.int n), none, none, none, none] h = .rt d h' → Aft a g m (N + 10) h h' → Bad n d → d.pure = true → ∃ (d : D) (h' : AH), c__law_spoilt [.ref a, .ref r, dN n] h = .ok d h' ∧ Aft a g m (N + 10) h h' ∧ Bad n d := fun d h' e X bd p => by
    obtain ⟨h2, w, A2⟩ := gc_aft ll X p
    refine ⟨d, h2, ?_, A2, bd⟩
    show gc h (outS (m__law_spoilt [some (.ref a), some (.ref r), some (.int n), none, none, none, none] h)) = _
    rw [e]; exact w
  have finP : ∀ (b' r' k : Nat) (h' : AH) (rs' : List Nat) (K : List (List D)), RA b' h' r' rs' K → Gd k K → k ≤ 1000 → ¬ VaC n (K.map D.tup) → Aft a g m (N + 10) h h' →
      (c__law_plain [.ref r'] h' = .ok (.tup (K.map D.tup)) h' → m__law_spoilt [some (.ref a), some (.ref r), some (.int n), none, none, none, none] h = .rt (.tup (K.map D.tup)) h') → ∃ (d : D) (h' : AH), c__law_spoilt [.ref a, .ref r, dN n] h = .ok d h' ∧ Aft a g m (N + 10) h h' ∧ Bad n d :=
    fun b' r' k h' rs' K R Gk hk no X e => fin _ _ (e (plain_spec R (by have := Gk.1; omega) Gk.pures)) X ⟨bad_of Gk hk (by omega) no, gd_al Gk hk⟩ (pures_iff.mpr fun d hd => by
      obtain ⟨l, hl, rfl⟩ := List.mem_map.mp hd
      exact Gk.pures l hl)
  obtain ⟨ch, h1, w1, hc, A1, L1⟩ := takeI B (by omega) (s := 9) (by omega) (by omega)
  have RA1 := A.ev A1.ev ab.1 ab.2.1
  have rf1 := RA1.rf
  have lrs : (rs.map D.ref).length = rs.length := by simp
  have s1 : sSet 3 (eCall (argn 2 c__law_take) (lCons (eVar 0) (lCons (eC (.int 9)) lNil))) [some (.ref a), some (.ref r), some (.int n), none, none, none, none] h = .nx [some (.ref a), some (.ref r), some (.int n), some (.int ch), none, none, none] h1 := by simp [w1]
  have Gd1 := G.gd
  have tr := truth_lst rf1
  have rest : ch = 0 ∨ ch = 1 ∨ ch = 2 ∨ (ch = 3 ∨ (ch = 4 ∧ rs = [])) ∨ (ch = 4 ∧ rs ≠ []) ∨ ch = 5 ∨ ch = 6 ∨ ch = 7 ∨ ch = 8 := by
    by_cases h3 : ch = 3
    · exact .inr (.inr (.inr (.inl (.inl h3))))
    by_cases h4 : ch = 4
    · by_cases e : rs = []
      · exact .inr (.inr (.inr (.inl (.inr ⟨h4, e⟩))))
      · exact .inr (.inr (.inr (.inr (.inl ⟨h4, e⟩))))
    have z : ch = 0 ∨ ch = 1 ∨ ch = 2 ∨ ch = 5 ∨ ch = 6 ∨ ch = 7 ∨ ch = 8 := by omega
    rcases z with h | h | h | h | h | h | h <;> simp [h]
  rcases rest with rfl | rfl | rfl | c3 | ⟨rfl, e4⟩ | rfl | rfl | rfl | rfl
  · -- an empty cycle
    obtain ⟨s, h2, w2, hs, A2, L2⟩ := takeA A1.bg (by omega) (s := rs.length + 1) (by omega) (by omega)
    have RA2 := RA1.ev A2.ev ab.1 ab.2.1
    have rf2 := RA2.rf
    have rlt2 := RA2.lt
    have cs : ((rs.length : Int) + 1) = ((rs.length + 1 : Nat) : Int) := rfl
    obtain ⟨E, hE⟩ : ∃ E : AE, E = [some (.ref a), some (.ref r), some (.int n), some (.int 0), some (.int s), none, none] := ⟨_, rfl⟩
    have f1 : ∀ H : AH, H[r]? = some (.lst (rs.map D.ref)) → eSl (eVar 1) none (some (eVar 4)) E H = .ok (.ref H.length) (H ++ [.lst ((rs.take s).map D.ref)]) := fun H e => by
      have c : cutD (rs.map D.ref) none (some (s : Int)) = (rs.take s).map D.ref := by rw [cutD_to, List.map_take]
      rw [hE]
      generalize rs.map D.ref = rsd at *
      simp [e, c]
    have f5 : ∀ H : AH, H[r]? = some (.lst (rs.map D.ref)) → eSl (eVar 1) (some (eVar 4)) none E H = .ok (.ref H.length) (H ++ [.lst ((rs.drop s).map D.ref)]) := fun H e => by
      have c : cutD (rs.map D.ref) (some (s : Int)) none = (rs.drop s).map D.ref := by rw [cutD_from, List.map_drop]
      rw [hE]
      generalize rs.map D.ref = rsd at *
      simp [e, c]
    obtain ⟨K1, hK1⟩ : ∃ K, K = h2 ++ [AO.lst ((rs.take s).map D.ref)] := ⟨_, rfl⟩
    obtain ⟨K3, hK3⟩ : ∃ K, K = K1 ++ [AO.lst [], AO.lst [.ref K1.length]] := ⟨_, rfl⟩
    obtain ⟨K4, hK4⟩ : ∃ K, K = K3 ++ [AO.lst ((rs.take s).map D.ref ++ [.ref K1.length])] := ⟨_, rfl⟩
    obtain ⟨K5, hK5⟩ : ∃ K, K = K4 ++ [AO.lst ((rs.drop s).map D.ref)] := ⟨_, rfl⟩
    obtain ⟨K6, hK6⟩ : ∃ K, K = K5 ++ [AO.lst ((rs.take s).map D.ref ++ [.ref K1.length] ++ (rs.drop s).map D.ref)] := ⟨_, rfl⟩
    have last : ∀ (K : AH) (o : AO), (K ++ [o])[K.length]? = some o := fun K o => by simp
    have old : ∀ {K K' g : AH} {i : Nat} {x : AO}, K' = K ++ g → K[i]? = some x → K'[i]? = some x := fun e1 e2 => by rw [e1]; exact app_get_l e2
    have a3 := add_new (r := h2.length) (q := K1.length + 1) (h := K3) (xs := (rs.take s).map D.ref) (ys := [.ref K1.length]) (old hK3 (by rw [hK1]; exact last _ _)) (by rw [hK3, app_get]; rfl) (by simp; omega)
    have a4 := add_new (r := K3.length) (q := K4.length) (h := K5) (xs := (rs.take s).map D.ref ++ [.ref K1.length]) (ys := (rs.drop s).map D.ref) (old hK5 (by rw [hK4]; exact last _ _)) (by rw [hK5]; exact last _ _) (by simp; omega)
    rw [← hK4] at a3
    rw [← hK6] at a4
    have F1 := f1 h2 rf2
    rw [← hK1] at F1
    have F2 : eLst (lCons (eLst lNil) lNil) E K1 = .ok (.ref (K1.length + 1)) K3 := by rw [hK3]; simp
    have r4 : K4[r]? = some (.lst (rs.map D.ref)) := old hK4 (old hK3 (old hK1 rf2))
    have F5 := f5 K4 r4
    rw [← hK5] at F5
    have F7 : eOp oAdd (eOp oAdd (eSl (eVar 1) none (some (eVar 4))) (eLst (lCons (eLst lNil) lNil))) (eSl (eVar 1) (some (eVar 4)) none) E h2 = .ok (.ref K5.length) K6 := by
      rw [eOp_, eOp_, F1, then_ok, F2, then_ok, a3, then_ok, F5, then_ok, a4]
    obtain ⟨gg, hgg⟩ : ∃ gg, K6 = h2 ++ gg := ⟨[AO.lst ((rs.take s).map D.ref)] ++ [AO.lst [], AO.lst [.ref K1.length]] ++ [AO.lst ((rs.take s).map D.ref ++ [.ref K1.length])] ++ [AO.lst ((rs.drop s).map D.ref)] ++ [AO.lst ((rs.take s).map D.ref ++ [.ref K1.length] ++ (rs.drop s).map D.ref)], by
      rw [hK6, hK5, hK4, hK3]
      generalize K1.length = z
      rw [hK1]
      simp⟩
    have l1 : K1.length = h2.length + 1 := by rw [hK1]; simp
    have l5 : K5.length = h2.length + 5 := by rw [hK5, hK4, hK3]; simp; omega
    have G5 : K6[K1.length]? = some (.lst []) := old hK6 (old hK5 (old hK4 (by rw [hK3]; simp)))
    have R6 : RA b K6 K5.length (rs.take s ++ [K1.length] ++ rs.drop s) ((P.map fun l : List Nat => l.map dN).take s ++ [[]] ++ (P.map fun l : List Nat => l.map dN).drop s) := by
      refine RA.mkNew (H := h) (rs := rs) (L := (P.map fun l : List Nat => l.map dN)) (by rw [hK6, last]; simp) (by have := A2.ev.le; have := A1.ev.le; omega) (fun x hx => ?_) ?_
      · rw [List.append_assoc] at hx
        rcases List.mem_append.mp hx with z | z
        · have := List.mem_of_mem_take z
          exact ⟨A.bs x this, by have := rlt2.2 x this; omega⟩
        · rcases List.mem_append.mp z with z | z
          · rw [List.mem_singleton] at z; omega
          · have := List.mem_of_mem_drop z
            exact ⟨A.bs x this, by have := rlt2.2 x this; omega⟩
      · rw [List.map_append, List.map_append, List.map_append, List.map_append]
        have q1 := RA2.takeAt gg s
        have q2 := RA2.dropAt gg s
        rw [← hgg] at q1 q2
        rw [q1, q2]
        congr 2
        simp only [List.map_cons, List.map_nil]
        rw [G5]
    refine finP b K5.length 101 K6 _ _ R6 ⟨by simp; omega, fun l hl => ?_⟩ (by omega) (nv_nil (by simp)) (by rw [hgg]; exact ((A1.step A2).app _).mono (by omega)) fun pw => ?_
    · rw [List.append_assoc] at hl
      rcases List.mem_append.mp hl with z | z
      · exact (Gd1.mono (j := 101) (by omega)).2 l (List.mem_of_mem_take z)
      · rcases List.mem_append.mp z with z | z
        · rw [List.mem_singleton] at z; subst z; exact ⟨by simp, by simp⟩
        · exact (Gd1.mono (j := 101) (by omega)).2 l (List.mem_of_mem_drop z)
    · unfold m__law_spoilt
      refine sqR s1 ?_
      have q1 : sSet 4 (eCall (argn 2 c__law_take) (lCons (eVar 0) (lCons (eOp oAdd (eCall cLen (lCons (eVar 1) lNil)) (eC (.int 1))) lNil))) [some (.ref a), some (.ref r), some (.int n), some (.int 0), none, none, none] h1 = .nx E h2 := by
        rw [hE]
        generalize rs.map D.ref = rsd at *
        simp [rf1, lrs, cs, w2, -Int.natCast_add]
      have q2 : sRet (eCall (argn 1 c__law_plain) (lCons (eOp oAdd (eOp oAdd (eSl (eVar 1) none (some (eVar 4))) (eLst (lCons (eLst lNil) lNil))) (eSl (eVar 1) (some (eVar 4)) none)) lNil)) E h2 = .rt (.tup (((P.map fun l : List Nat => l.map dN).take s ++ [[]] ++ (P.map fun l : List Nat => l.map dN).drop s).map D.tup)) K6 := by
        rw [sRet_, eCall_, lCons_, F7]
        generalize (((P.map fun l : List Nat => l.map dN).take s ++ [[]] ++ (P.map fun l : List Nat => l.map dN).drop s).map D.tup) = X at *
        simp [pw]
      have q3 : sIf (eOp oEq (eVar 3) (eC (.int 0))) (sSeq (sSet 4 (eCall (argn 2 c__law_take) (lCons (eVar 0) (lCons (eOp oAdd (eCall cLen (lCons (eVar 1) lNil)) (eC (.int 1))) lNil))))
          (sRet (eCall (argn 1 c__law_plain) (lCons (eOp oAdd (eOp oAdd (eSl (eVar 1) none (some (eVar 4))) (eLst (lCons (eLst lNil) lNil))) (eSl (eVar 1) (some (eVar 4)) none)) lNil)))) sPass [some (.ref a), some (.ref r), some (.int n), some (.int ((0 : Nat) : Int)), none, none, none] h1 = .rt (.tup (((P.map fun l : List Nat => l.map dN).take s ++ [[]] ++ (P.map fun l : List Nat => l.map dN).drop s).map D.tup)) K6 := by
        rw [sIf_]
        have : eOp oEq (eVar 3) (eC (.int 0)) [some (.ref a), some (.ref r), some (.int n), some (.int ((0 : Nat) : Int)), none, none, none] h1 = .ok (.bl true) h1 := by simp
        rw [this, thenS_ok, onB_bl, if_pos rfl]
        exact sqR q1 q2
      rw [sSeq_, q3]; rfl
  · -- too great
    obtain ⟨d, h2, w2, hd, A2, L2⟩ := takeI A1.bg (by omega) (s := 3) (by omega) (by omega)
    have RA2 := RA1.ev A2.ev ab.1 ab.2.1
    obtain ⟨r', h', rs', K, w3, R, A3, Gk, pm⟩ := put_spec A2.bg (by omega) RA2 ab Gd1 (by omega) (thing := .int ((n : Int) + d)) (.inl trivial) trivial
    refine finP b r' 101 h' rs' K R Gk (by omega) (nv_mem (pm.mem_iff.mpr List.mem_cons_self) fun x hx e => ?_) (((A1.step A2).step A3).mono (by omega)) fun pw => ?_
    · unfold dN at e; injection e with e; omega
    · unfold m__law_spoilt
      refine sqR s1 ?_
      generalize K.map D.tup = X at *
      simp [w2, w3, pw]
  · -- below 0
    obtain ⟨d, h2, w2, hd, A2, L2⟩ := takeI A1.bg (by omega) (s := 3) (by omega) (by omega)
    have RA2 := RA1.ev A2.ev ab.1 ab.2.1
    obtain ⟨r', h', rs', K, w3, R, A3, Gk, pm⟩ := put_spec A2.bg (by omega) RA2 ab Gd1 (by omega) (thing := .int (-1 - (d : Int))) (.inl trivial) trivial
    refine finP b r' 101 h' rs' K R Gk (by omega) (nv_mem (pm.mem_iff.mpr List.mem_cons_self) fun x hx e => ?_) (((A1.step A2).step A3).mono (by omega)) fun pw => ?_
    · unfold dN at e; injection e with e; omega
    · unfold m__law_spoilt
      refine sqR s1 ?_
      generalize K.map D.tup = X at *
      simp [w2, w3, pw]
  · -- a point twice
    obtain ⟨v, h2, w2, hv, A2, L2⟩ := takeA A1.bg (by omega) (s := n) (by omega) (by omega)
    have RA2 := RA1.ev A2.ev ab.1 ab.2.1
    obtain ⟨r3, h3, rs3, Q, w3, R3, A3, G3⟩ := without_spec A2.bg RA2 G (by omega) (v := v)
    have l12 : h.length ≤ h2.length := by have := A1.ev.le; have := A2.ev.le; omega
    obtain ⟨r4, h4, rs4, K4, w4, R4, A4, Gk4, pm4⟩ := put_spec A3.bg (by omega) R3 ⟨by omega, by omega, by omega⟩ G3.gd (by omega) (thing := .int v) (.inl trivial) trivial
    obtain ⟨r5, h5, rs5, K5, w5, R5, A5, Gk5, pm5⟩ := put_spec A4.bg (by omega) R4 ⟨by omega, by omega, by omega⟩ Gk4 (by omega) (thing := .int v) (.inl trivial) trivial
    refine finP h2.length r5 102 h5 rs5 K5 R5 Gk5 (by omega) (nv_dup (pm5.trans (pm4.cons _))) (((((A1.step A2).step A3).step A4).step A5).mono (by omega)) fun pw => ?_
    unfold m__law_spoilt
    refine sqR s1 ?_
    generalize K5.map D.tup = X at *
    rcases c3 with rfl | ⟨rfl, e⟩
    · simp [w2, w3, w4, w5, pw]
    · rw [e] at tr
      have tr' : oTruth (.ref r) h1 = .ok (.bl false) h1 := tr
      simp [tr', w2, w3, w4, w5, pw]
  · -- a cycle twice
    have rp : 0 < rs.length := List.length_pos_iff.mpr e4
    obtain ⟨s, h2, w2, hs, A2, L2⟩ := takeA A1.bg (by omega) (s := rs.length) (by omega) (by omega)
    have RA2 := RA1.ev A2.ev ab.1 ab.2.1
    have rf2 := RA2.rf
    have rlt2 := RA2.lt
    obtain ⟨y, ey, yb, gy⟩ := RA2.get (i := s) (by rw [List.length_map]; omega)
    obtain ⟨l, hl⟩ : ∃ l, l = P.getD s [] := ⟨_, rfl⟩
    have sP : s < P.length := by omega
    have el : (P.map fun l : List Nat => l.map dN).getD s [] = l.map dN := by
      rw [hl, List.getD_eq_getElem?_getD, List.getElem?_map, List.getD_eq_getElem?_getD, List.getElem?_eq_getElem sP]; rfl
    have lm : l ∈ P := by rw [hl, List.getD_eq_getElem?_getD, List.getElem?_eq_getElem sP]; exact List.getElem_mem sP
    rw [el] at gy
    obtain ⟨h3, hh3⟩ : ∃ h3, h3 = h2 ++ [AO.lst [.ref y]] := ⟨_, rfl⟩
    have ym : y ∈ rs := List.mem_of_getElem? ey
    -- the list on the right is read after the draw
    have ad := add_new (r := r) (q := h2.length) (h := h3) (xs := rs.map D.ref) (ys := [.ref y]) (by rw [hh3]; exact app_get_l rf2) (by rw [hh3]; simp) (by simp; omega)
    have er : rs.map D.ref ++ [.ref y] = (rs ++ [y]).map D.ref := by simp
    rw [er] at ad
    have R4 : RA b (h3 ++ [.lst ((rs ++ [y]).map D.ref)]) h3.length (rs ++ [y]) ((P.map fun l : List Nat => l.map dN) ++ [l.map dN]) := by
      have l3 : h3.length = h2.length + 1 := by rw [hh3]; simp
      refine RA.mkNew (H := h) (rs := rs) (L := (P.map fun l : List Nat => l.map dN)) (by simp) (by have := A2.ev.le; have := A1.ev.le; omega) (fun x hx => ?_) ?_
      · rcases List.mem_append.mp hx with z | z
        · exact ⟨A.bs x z, by have := rlt2.2 x z; omega⟩
        · rw [List.mem_singleton] at z; subst z; exact ⟨yb, by have := rlt2.2 x ym; omega⟩
      · rw [hh3, List.append_assoc, List.map_append, RA2.at' _]
        simp only [List.map_append, List.map_cons, List.map_nil]
        rw [app_get_l gy]
    refine finP b h3.length 101 _ _ _ R4 ⟨by simp; omega, fun c hc => ?_⟩ (by omega) ?_ (by rw [hh3]; exact (((A1.step A2).app _).app _).mono (by omega)) fun pw => ?_
    · rcases List.mem_append.mp hc with z | z
      · exact (Gd1.mono (j := 101) (by omega)).2 c z
      · rw [List.mem_singleton] at z
        subst z
        exact (Gd1.mono (j := 101) (by omega)).2 _ (List.mem_map.mpr ⟨l, lm, rfl⟩)
    · -- its first point stands twice
      have ln := ne l lm
      obtain ⟨R, eR⟩ := flat_take (P := P) (i := s) (l := l) (by rw [hl, List.getD_eq_getElem?_getD, List.getElem?_eq_getElem sP]; rfl)
      cases l with
      | nil => exact absurd rfl ln
      | cons x t =>
        have e1 : ((P.map fun l : List Nat => l.map dN) ++ [(x :: t).map dN]).flatten = (((P.take s).flatten ++ (x :: t) ++ R) ++ (x :: t)).map dN := by
          rw [List.flatten_append, flat_dN, eR, List.map_append]; simp
        have pm : ((((P.take s).flatten ++ (x :: t) ++ R) ++ (x :: t)).map dN).Perm (dN x :: dN x :: ((P.take s).flatten ++ t ++ R ++ t).map dN) := by
          have : (((P.take s).flatten ++ (x :: t) ++ R) ++ (x :: t)).Perm (x :: x :: ((P.take s).flatten ++ t ++ R ++ t)) := by
            refine List.perm_middle.trans (List.Perm.cons x ?_)
            rw [List.append_assoc, List.append_assoc, List.cons_append]
            refine List.perm_middle.trans (List.Perm.cons x ?_)
            rw [List.append_assoc, List.append_assoc]
          exact this.map dN
        exact nv_dup (d := dN x) (R := ((P.take s).flatten ++ t ++ R ++ t).map dN) (by rw [e1]; exact pm)
    · unfold m__law_spoilt
      refine sqR s1 ?_
      have tf : oTruth (.ref r) h1 = .ok (.bl true) h1 := by
        rw [tr]
        cases hrs : rs with
        | nil => exact absurd hrs e4
        | cons x l => rfl
      have ix : ∀ h, ixD (rs.map D.ref) (s : Int) h = .ok (.ref y) h := fun h => ixD_map ey
      have rf3 : h2[r]? = some (.lst (rs.map D.ref)) := rf2
      generalize ((P.map fun l : List Nat => l.map dN) ++ [l.map dN]).map D.tup = X at *
      generalize (rs ++ [y]).map D.ref = Y at *
      generalize hH4 : h3 ++ [AO.lst Y] = h4 at *
      clear hH4
      generalize rs.map D.ref = rsd at *
      have ld : eLst (lCons (eOp oIx (eVar 1) (eCall (argn 2 c__law_take) (lCons (eVar 0) (lCons (eCall cLen (lCons (eVar 1) lNil)) lNil)))) lNil) [some (.ref a), some (.ref r), some (.int n), some (.int 4), none, none, none] h1 = .ok (.ref h2.length) h3 := by
        rw [hh3]
        simp [rf1, lrs, w2, rf3, ix]
      simp [tf, ld, ad, pw, -eLst_]
  · -- True or False
    obtain ⟨v, h2, w2, hv, A2, L2⟩ := takeI A1.bg (by omega) (s := if (2 : Int) < (n : Int) then 2 else (n : Int)) (by split <;> omega) (by split <;> omega)
    have RA2 := RA1.ev A2.ev ab.1 ab.2.1
    obtain ⟨r3, h3, rs3, Q, w3, R3, A3, G3⟩ := without_spec A2.bg RA2 G (by omega) (v := v)
    have l12 : h.length ≤ h2.length := by have := A1.ev.le; have := A2.ev.le; omega
    obtain ⟨r4, h4, rs4, K4, w4, R4, A4, Gk4, pm4⟩ := put_spec A3.bg (by omega) R3 ⟨by omega, by omega, by omega⟩ G3.gd (by omega) (thing := .bl ((v : Int) == 1)) (.inl trivial) trivial
    refine finP h2.length r4 101 h4 rs4 K4 R4 Gk4 (by omega) (nv_mem (pm4.mem_iff.mpr List.mem_cons_self) fun x hx e => by unfold dN at e; cases e) ((((A1.step A2).step A3).step A4).mono (by omega)) fun pw => ?_
    unfold m__law_spoilt
    refine sqR s1 ?_
    generalize K4.map D.tup = X at *
    generalize hb : ((v : Int) == 1) = bb at *
    have mn : ∀ h, cMin2 [.int (n : Int), .int 2] h = .ok (.int (if (2 : Int) < (n : Int) then 2 else (n : Int))) h := fun h => rfl
    generalize (if (2 : Int) < (n : Int) then 2 else (n : Int)) = mm at *
    simp [mn, w2, w3, hb, w4, pw, -cMin2_int]
  · -- a text
    obtain ⟨v, h2, w2, hv, A2, L2⟩ := takeA A1.bg (by omega) (s := n) (by omega) (by omega)
    have RA2 := RA1.ev A2.ev ab.1 ab.2.1
    obtain ⟨r3, h3, rs3, Q, w3, R3, A3, G3⟩ := without_spec A2.bg RA2 G (by omega) (v := v)
    have l12 : h.length ≤ h2.length := by have := A1.ev.le; have := A2.ev.le; omega
    have sx := fun h => cStr_N (v := v) (by omega) h
    obtain ⟨r4, h4, rs4, K4, w4, R4, A4, Gk4, pm4⟩ := put_spec A3.bg (by omega) R3 ⟨by omega, by omega, by omega⟩ G3.gd (by omega) (thing := .str (Str.ofString (toString (v : Int)))) (.inl trivial) (sx h).2
    refine finP h2.length r4 101 h4 rs4 K4 R4 Gk4 (by omega) (nv_mem (pm4.mem_iff.mpr List.mem_cons_self) fun x hx e => by unfold dN at e; cases e) ((((A1.step A2).step A3).step A4).mono (by omega)) fun pw => ?_
    unfold m__law_spoilt
    refine sqR s1 ?_
    generalize K4.map D.tup = X at *
    have sx1 := fun h => (sx h).1
    generalize Str.ofString (toString (v : Int)) = tx at *
    simp [w2, w3, sx1, w4, pw]
  · -- another thing
    obtain ⟨O, hO⟩ : ∃ O : List D, O = [.non, .tup [], .tup [.int 0], .str (Str.ofString "")] := ⟨_, rfl⟩
    obtain ⟨d, h2, w2, hd, A2, L2⟩ := takeI (A1.app [.lst O]).bg (by omega) (s := 4) (by omega) (by omega)
    have A12 := (A1.app [.lst O]).step A2
    have RA2 := (RA1.app [.lst O]).ev A2.ev ab.1 ab.2.1
    have Ol : O.length = 4 := by rw [hO]; rfl
    have s2 : PyData.strOk (Str.ofString "") = true := by decide +kernel
    have ok : ∀ x ∈ O, V0 x ∧ Al 3 x ∧ ∀ z, x ≠ dN z := by
      rw [hO]
      intro x hx
      simp only [List.mem_cons, List.not_mem_nil, or_false] at hx
      rcases hx with rfl | rfl | rfl | rfl
      · exact ⟨.inl trivial, trivial, fun z e => by unfold dN at e; cases e⟩
      · exact ⟨.inr ⟨[], rfl, rfl⟩, ⟨by simp, by simp⟩, fun z e => by unfold dN at e; cases e⟩
      · exact ⟨.inr ⟨_, rfl, rfl⟩, ⟨by simp, fun y hy => by rw [List.mem_singleton] at hy; subst hy; trivial⟩, fun z e => by unfold dN at e; cases e⟩
      · exact ⟨.inl trivial, s2, fun z e => by unfold dN at e; cases e⟩
    obtain ⟨v1, v2, v3⟩ := ok (O.getD d .non) (getD_mem (by omega))
    have H2 : h2[h1.length]? = some (.lst O) := A2.ev.get (by simp) (by have := A1.ev.le; omega) (by have := A1.ev.le; omega)
    have xd := fun h => ixD_get' (ds := O) (i := d) (by omega) h
    obtain ⟨r4, h4, rs4, K4, w4, R4, A4, Gk4, pm4⟩ := put_spec A2.bg (by omega) RA2 ab Gd1 (by omega) (thing := O.getD d .non) v1 v2
    refine finP b r4 101 h4 rs4 K4 R4 Gk4 (by omega) (nv_mem (pm4.mem_iff.mpr List.mem_cons_self) fun x hx e => v3 x e) ((A12.step A4).mono (by omega)) fun pw => ?_
    unfold m__law_spoilt
    refine sqR s1 ?_
    have ld : eLst (lCons (eC .non) (lCons (eTup lNil) (lCons (eTup (lCons (eC (.int 0)) lNil)) (lCons (eC (.str (Str.ofString ""))) lNil)))) [some (.ref a), some (.ref r), some (.int n), some (.int 7), none, none, none] h1 = .ok (.ref h1.length) (h1 ++ [.lst O]) := by
      rw [hO]; simp
    generalize O.getD d .non = th at *
    generalize K4.map D.tup = X at *
    generalize h1 ++ [AO.lst O] = H1 at *
    simp [ld, w2, H2, xd, w4, pw, -eLst_]
  · -- another value
    obtain ⟨d, h2, w2, hd, A2, L2⟩ := takeI (A1.app [.lst oddL]).bg (by omega) (s := 11) (by omega) (by omega)
    have A12 := (A1.app [.lst oddL]).step A2
    have Ol : oddL.length = 11 := rfl
    have H2 : h2[h1.length]? = some (.lst oddL) := A2.ev.get (by simp) (by have := A1.ev.le; omega) (by have := A1.ev.le; omega)
    have xd := fun h => ixD_get' (ds := oddL) (i := d) (by omega) h
    obtain ⟨bd, pu⟩ := odd_bad (n := n) (by omega) (oddL.getD d .non) (getD_mem (by omega))
    refine fin (oddL.getD d .non) h2 ?_ (A12.mono (by omega)) bd pu
    unfold m__law_spoilt
    refine sqR s1 ?_
    have f11 : Fits 11 := fits (by omega)
    have ld : eLst (lCons (eC .non) (lCons (eC (.bl true)) (lCons (eC (.int 0)) (lCons (eC (.str (Str.ofString "()"))) (lCons (eC (.str (Str.ofString ""))) (lCons (eTup (lCons (eC (.int 0)) lNil)) (lCons (eTup (lCons (eTup (lCons (eC (.int 0)) lNil)) (lCons (eC (.int 0)) lNil))) (lCons (eTup (lCons (eC (.str (Str.ofString "0"))) lNil)) (lCons (eTup (lCons (eTup (lCons (eTup (lCons (eC (.int 0)) lNil)) lNil)) lNil)) (lCons (eC (.str (Str.ofString "(0)"))) (lCons (eTup (lCons (eC .non) lNil)) lNil))))))))))) [some (.ref a), some (.ref r), some (.int n), some (.int 8), none, none, none] h1 = .ok (.ref h1.length) (h1 ++ [.lst oddL]) := by
      unfold oddL; simp [f11]
    generalize oddL.getD d .non = th at *
    generalize h1 ++ [AO.lst oddL] = H1 at *
    simp [ld, w2, H2, xd, -eLst_]
end Law

set_option maxHeartbeats 1000000
/-! the law -/
namespace Law
open PySem Rf L2
theorem flat_len {L : List (List Nat)} (h : ∀ l ∈ L, 0 < l.length) : L.length ≤ L.flatten.length := by
  induction L with
  | nil => simp
  | cons l L ih =>
    have := ih fun x hx => h x (by simp [hx])
    have := h l (by simp)
    simp at *; omega
theorem turned_gn {f : List Nat} {n : Nat} {L : List (List Nat)} {R : List Nat} (C : ∀ l ∈ L, Cyl f l) (pm : (L.flatten ++ R).Perm (List.range n)) (hn : n ≤ 60) : Gn 100 L ∧ ∀ l ∈ L, l ≠ [] := by
  have fl : L.flatten.length ≤ n := by
    have := pm.length_eq
    rw [List.length_append, List.length_range] at this
    omega
  refine ⟨⟨by have := flat_len fun l hl => (C l hl).pos; omega, fun l hl => by have := List.Sublist.length_le (List.sublist_flatten_of_mem hl); omega⟩, fun l hl e => by have := (C l hl).pos; rw [e] at this; simp at this⟩
/-- a perm, its cycles told and put together again -/
theorem again_spec {f : List Nat} {n : Nat} (P : IsP n f) (hn : n ≤ 60) {b r : Nat} {rs : List Nat} {L : List (List Nat)} {R : List Nat} {H : AH} (A : RA b H r rs (L.map fun l => l.map dN)) (C : ∀ l ∈ L, Cyl f l) (pm : (L.flatten ++ R).Perm (List.range n)) (fx : ∀ x ∈ R, f.getD x 0 = x) :
    c__law_plain [.ref r] H = .ok (.tup (L.map dC)) H ∧ c_from_cycles [.tup (L.map dC), dN n] H = .ok (dC f) H ∧ c__law_alike [dC f, dC f] H = .ok (.bl true) H := by
  obtain ⟨G, ne⟩ := turned_gn C pm hn
  have w := plain_spec A (by have := G.gd.1; omega) G.gd.pures
  rw [tup_dC] at w
  refine ⟨w, from_good P (by omega) C pm fx, alike (k := 1) (by omega) (al_row (by rw [P.len]; omega)) H⟩
theorem law_true (ns : List Int) (hl : ns.length ≤ 63) : ∃ h', c_law [.rol (ns.map D.int)] [] = .ok (.bl true) h' := by
  obtain ⟨X, hX⟩ : ∃ X, X = D.rol (ns.map D.int) := ⟨_, rfl⟩
  obtain ⟨a, g, m, h1, w1, B1, _, _, _, _, _⟩ := bag_spec (h := []) hl
  obtain ⟨n, h2, w2, A2, n1, n2⟩ := size_spec B1 (by omega)
  obtain ⟨p, h3, w3, P, A3⟩ := perm_spec A2.bg (n := n) n1 (by omega) (by omega)
  obtain ⟨q, h4, w4, Q, A4⟩ := perm_spec A3.bg (n := n) n1 (by omega) (by omega)
  have lp := P.len
  have lq := Q.len
  have PQ := mulP_isP P Q
  obtain ⟨u, hu⟩ : ∃ u, u = mulP p q := ⟨_, rfl⟩
  rw [← hu] at PQ
  have sg := sgn_mul P Q
  rw [← hu] at sg
  obtain ⟨h5, hh5⟩ : ∃ h5, h5 = h4 ++ [AO.lst (u.map dN)] := ⟨_, rfl⟩
  have lc : lc_law_1 [some X, some (.ref a), some (dN n), some (dC p), some (dC q), none, none, none, none, none] h4 = .ok (.ref h4.length) h5 := by
    unfold lc_law_1
    have z := eLc_map (φ := dN) (k := 6) (mi := iVal (eVar 3)) (te := eOp oIx (eVar 4) (eVar 6)) (vs := [6]) (e := [some X, some (.ref a), some (dN n), some (dC p), some (dC q), none, none, none, none, none]) (h := h4) (h1 := h4) p (fun x => dN (q.getD x 0)) (iVal_tup (by simp [dC])) (by rw [sizeLine_eq]; omega) fun x hx => by
      have xl : x < n := by
        obtain ⟨i, hi, rfl⟩ := List.mem_iff_getElem.mp hx
        have := P.lt i (by omega)
        rwa [getD_get hi] at this
      have ix : ∀ h, ixD (q.map dN) (x : Int) h = .ok (dN (q.getD x 0)) h := fun h => ixD_N (by omega)
      generalize q.getD x 0 = v at *
      unfold dC
      generalize q.map dN = qd at *
      simp only [dN] at ix ⊢
      simp [wipeE, ix]
    rw [z, hh5, hu]
    unfold mulP
    rw [List.map_map]; rfl
  have G5 : h5[h4.length]? = some (.lst (u.map dN)) := by rw [hh5]; simp
  have B5 : Bg h5 a g m (0 + 2 + n + 3 + n + 3) := by rw [hh5]; exact A4.bg.app
  have d1 := described_spec P n1 n2 (h := h5)
  have d2 := described_spec Q n1 n2 (h := h5)
  have d3 := described_spec PQ n1 n2 (h := h5)
  have e1 := sign_spec PQ n1 (by omega) (h := h5)
  have e2 := parity_spec P n1 (by omega) (h := h5)
  have e3 := parity_spec Q n1 (by omega) (h := h5)
  have e4 := alike (k := 0) (by omega) (al_I (k := 0) (x := sgn u n)) h5
  have sb : ∀ f : List Nat, -1 ≤ sgn f n ∧ sgn f n ≤ 1 := fun f => by unfold sgn; omega
  have cm : CMulX (sgn p n) (sgn q n) := mulB (by have := sb p; omega) (by have := sb p; omega) (by have := sb q; omega) (by have := sb q; omega)
  obtain ⟨r6, h6, rs6, L6, R6, w6, RA6, A6, C6, pm6, fx6⟩ := turned_spec P n1 (by omega) B5 (by omega)
  obtain ⟨t1, t2, t3⟩ := again_spec P n2 RA6 C6 pm6 fx6
  obtain ⟨r7, h7, rs7, L7, R7, w7, RA7, A7, C7, pm7, fx7⟩ := turned_spec PQ n1 (by omega) A6.bg (by omega)
  obtain ⟨u1, u2, u3⟩ := again_spec PQ n2 RA7 C7 pm7 fx7
  obtain ⟨G7, ne7⟩ := turned_gn C7 pm7 n2
  have lt6 := A6.bg.lt
  obtain ⟨e', h8, w8, ⟨x9, rfl⟩, B8, RA8⟩ := loopN (k := 9) (b := lb_law_1)
    (fun i e h' => (∃ x9 : Option D, e = [some X, some (.ref a), some (dN n), some (dC p), some (dC q), some (dC u), none, some (.bl true), some (.ref r7), x9]) ∧ Bg h' a g m (1000 + 10 * i) ∧ RA h6.length h' r7 rs7 (L7.map fun l => l.map dN))
    3 (e := [some X, some (.ref a), some (dN n), some (dC p), some (dC q), some (dC u), none, some (.bl true), some (.ref r7), none]) (h := h7) ⟨⟨none, rfl⟩, A7.bg.mono (by omega), RA7⟩ (by
      rintro i e h' hi ⟨⟨x9, rfl⟩, B', RA'⟩
      obtain ⟨d, h9, w9, A9, bd⟩ := spoilt_spec B' (by omega) RA' ⟨by omega, by omega, by omega⟩ G7 ne7 n1 n2
      have rf := refused_spec (n := n) (bd.1 h9) bd.2
      refine ⟨_, h9, ?_, ⟨some (dN i), rfl⟩, A9.bg, RA'.ev A9.ev (by omega) (by omega)⟩
      simp only [dN] at w9 rf ⊢
      simp [lb_law_1, w9, rf])
  have key : m_law [some X, none, none, none, none, none, none, none, none, none] [] = .rt (.bl true) h8 := by
    rw [← hX] at w1
    unfold m_law
    refine sqR (e1 := [some X, some (.ref a), none, none, none, none, none, none, none, none]) (h1 := h1) (by simp [w1]) ?_
    refine sqR (e1 := [some X, some (.ref a), some (dN n), none, none, none, none, none, none, none]) (h1 := h2) (by simp [w2]) ?_
    refine sqR (e1 := [some X, some (.ref a), some (dN n), some (dC p), none, none, none, none, none, none]) (h1 := h3) (by simp [w3]) ?_
    refine sqR (e1 := [some X, some (.ref a), some (dN n), some (dC p), some (dC q), none, none, none, none, none]) (h1 := h4) (by simp [w4]) ?_
    refine sqR (e1 := [some X, some (.ref a), some (dN n), some (dC p), some (dC q), some (dC u), none, none, none, none]) (h1 := h5) (by rw [sSet_, eCall_, lCons_, lc]; simp [G5, dC]) ?_
    refine sqR (e1 := [some X, some (.ref a), some (dN n), some (dC p), some (dC q), some (dC u), none, some (.bl true), none, none]) (h1 := h5) (by simp [d1, d2, d3]) ?_
    refine sqR (e1 := [some X, some (.ref a), some (dN n), some (dC p), some (dC q), some (dC u), none, some (.bl true), none, none]) (h1 := h5) (by simp [permK, e1, e2, e3, oMul_, cm, sg, e4]) ?_
    refine sqR (e1 := [some X, some (.ref a), some (dN n), some (dC p), some (dC q), some (dC u), none, some (.bl true), some (.ref r6), none]) (h1 := h6) (by simp [w6]) ?_
    refine sqR (e1 := [some X, some (.ref a), some (dN n), some (dC p), some (dC q), some (dC u), none, some (.bl true), some (.ref r6), none]) (h1 := h6) (by simp [t1, t2, t3]) ?_
    refine sqR (e1 := [some X, some (.ref a), some (dN n), some (dC p), some (dC q), some (dC u), none, some (.bl true), some (.ref r7), none]) (h1 := h7) (by simp [w7]) ?_
    refine sqR (e1 := [some X, some (.ref a), some (dN n), some (dC p), some (dC q), some (dC u), none, some (.bl true), some (.ref r7), none]) (h1 := h7) (by simp [permK, u1, u2, u3]) ?_
    refine sqR (e1 := [some X, some (.ref a), some (dN n), some (dC p), some (dC q), some (dC u), none, some (.bl true), some (.ref r7), x9]) (h1 := h8) ((sFor_stat (iRange1_nat (n := 3) rfl (by omega))).trans w8) ?_
    simp
  obtain ⟨h9, w9⟩ := gc_bl (h := []) (h' := h8) (b := true)
  refine ⟨h9, ?_⟩
  rw [← hX]
  have e : c_law [X] [] = gc [] (outS (m_law [some X, none, none, none, none, none, none, none, none, none] [])) := rfl
  rw [e, key]
  exact w9
end Law

open PySem PySem.W PyProof.Rows
set_option maxHeartbeats 0 in
theorem PySem.Challenge.cw_tumbler_k01_cycles_and_signs_holds : PySem.Challenge.rw_tumbler_k01_cycles_and_signs.Holds := by
  w_on; o_law; k_head; (case hw => w_witness2)
  k_fill
  refine L2.walk_of (l := PySem.Challenge.rw_tumbler_k01_cycles_and_signs) (n := 63) (k := 9) (x := "script") (CX := fun w => L2N.CX PySem.Challenge.rw_tumbler_k01_cycles_and_signs.prog w) (sp := fun w => Rf.spLaw _ Law.c_law) rfl (by decide) rfl ⟨rfl, by decide, by decide⟩ (fun w h Y => PySem.W.kIn_of Y) ?F (fun w H a ns hl O S => Rf.spLaw.start O S (Law.law_true ns hl)) (fun _ _ _ _ _ h => Rf.cx_false h)
  case F =>
    intro w mg fa h KX G hmg
    refine' Law.all_mk KX G hmg ?a0 ?l0 ?c0 ?k0 ?a1 ?l1 ?c1 ?k1 ?a2 ?l2 ?c2 ?k2 ?a3 ?l3 ?c3 ?k3 ?a4 ?l4 ?c4 ?k4 ?a5 ?l5 ?c5 ?k5 ?a6 ?l6 ?c6 ?k6 ?a7 ?l7 ?c7 ?k7 ?a8 ?l8 ?c8 ?k8 ?a9 ?l9 ?c9 ?k9 ?a10 ?l10 ?c10 ?k10 ?a11 ?l11 ?c11 ?k11 ?a12 ?l12 ?c12 ?k12 ?a13 ?l13 ?c13 ?k13 ?a14 ?l14 ?c14 ?k14 ?a15 ?l15 ?c15 ?k15 ?a16 ?l16 ?c16 ?k16 ?a17 ?l17 ?c17 ?k17 ?a18 ?l18 ?c18 ?k18 ?a19 ?l19 ?c19 ?k19 ?a20 ?l20 ?c20 ?k20 ?a21 ?l21 ?c21 ?k21 ?a22 ?l22 ?c22 ?k22 ?a23 ?l23 ?c23 ?k23 ?a24 ?l24 ?c24 ?k24 ?a25 ?l25 ?c25 ?k25 ?z0 ?z1 ?z2 ?z3 ?z4 ?z5 ?z6 ?z7 ?z8 ?z9 ?z10 ?z11 ?zm0 ?kd4_0 ?ea0 ?eb0 ?ec0 ?ed0 ?ee0 ?ef0 ?eg0 ?eh0 ?ei0 ?ej0 ?ek0 ?el0 ?em0 ?eu0 ?en0 ?eo0 ?ep0 ?eq0 ?er0 ?es0 ?et0 ?ev0 ?ew0 ?ex0 ?ey0 ?ez0 ?eA0 ?eB0 ?ya0 ?ya1 ?pa0 ?pb0
    (case a0 => k_is); (case l0 => k_is); (case c0 => k_is); (case k0 => k_is); (case a1 => k_is); (case l1 => k_is); (case c1 => k_is); (case k1 => k_is); (case a2 => k_is); (case l2 => k_is); (case c2 => k_is); (case k2 => k_is); (case a3 => k_is); (case l3 => k_is); (case c3 => k_is); (case k3 => k_is); (case a4 => k_is); (case l4 => k_is); (case c4 => k_is); (case k4 => k_is); (case a5 => k_is); (case l5 => k_is); (case c5 => k_is); (case k5 => k_is); (case a6 => k_is); (case l6 => k_is); (case c6 => k_is); (case k6 => k_is); (case a7 => k_is); (case l7 => k_is); (case c7 => k_is); (case k7 => k_is); (case a8 => k_is); (case l8 => k_is); (case c8 => k_is); (case k8 => k_is); (case a9 => k_is); (case l9 => k_is); (case c9 => k_is); (case k9 => k_is); (case a10 => k_is); (case l10 => k_is); (case c10 => k_is); (case k10 => k_is); (case a11 => k_is); (case l11 => k_is); (case c11 => k_is); (case k11 => k_is); (case a12 => k_is); (case l12 => k_is); (case c12 => k_is); (case k12 => k_is); (case a13 => k_is); (case l13 => k_is); (case c13 => k_is); (case k13 => k_is); (case a14 => k_is); (case l14 => k_is); (case c14 => k_is); (case k14 => k_is); (case a15 => k_is); (case l15 => k_is); (case c15 => k_is); (case k15 => k_is); (case a16 => k_is); (case l16 => k_is); (case c16 => k_is); (case k16 => k_is); (case a17 => k_is); (case l17 => k_is); (case c17 => k_is); (case k17 => k_is); (case a18 => k_is); (case l18 => k_is); (case c18 => k_is); (case k18 => k_is); (case a19 => k_is); (case l19 => k_is); (case c19 => k_is); (case k19 => k_is); (case a20 => k_is); (case l20 => k_is); (case c20 => k_is); (case k20 => k_is); (case a21 => k_is); (case l21 => k_is); (case c21 => k_is); (case k21 => k_is); (case a22 => k_is); (case l22 => k_is); (case c22 => k_is); (case k22 => k_is); (case a23 => k_is); (case l23 => k_is); (case c23 => k_is); (case k23 => k_is); (case a24 => k_is); (case l24 => k_is); (case c24 => k_is); (case k24 => k_is); (case a25 => k_is); (case l25 => k_is); (case c25 => k_is); (case k25 => k_is); (case z0 => k_is); (case z1 => k_is); (case z2 => k_is); (case z3 => k_is); (case z4 => k_is); (case z5 => k_is); (case z6 => k_is); (case z7 => k_is); (case z8 => k_is); (case z9 => k_is); (case z10 => k_is); (case z11 => k_is); (case zm0 => k_is); (case kd4_0 => k_is); (case ea0 => k_is); (case eb0 => k_is); (case ec0 => rfl); (case ed0 => k_is); (case ee0 => k_is); (case ef0 => k_is); (case eg0 => k_is); (case eh0 => k_is); (case ei0 => ks_is); (case ej0 => k_is); (case ek0 => k_is); (case el0 => k_is); (case em0 => k_is); (case eu0 => k_is); (case en0 => k_is); (case eo0 => rfl); (case ep0 => rfl); (case eq0 => k_is); (case er0 => k_is); (case es0 => k_is); (case et0 => k_is); (case ev0 => k_is); (case ew0 => k_is); (case ex0 => k_is); (case ey0 => k_is); (case ez0 => k_is); (case eA0 => k_is); (case eB0 => k_is); (case ya0 => k_is); (case ya1 => k_is); (case pa0 => kts_exm); (case pb0 => kit_is)
