import PyProof.Rows.All
import Wide.All
import OpenK.AllK
import Wide.FinOn
import HandS.ExcInit
import HandS.Nested
import KE.KExcSuper
import HandS.ForMost
import HandS.ForExc
import HandS.IsInst
import HandS.CallSlots
import HandS.TupAny
import HandS.Deep
import HandS.Wide
import HandS.WideBits
import HandS.Text
import HandS.Conv
import HandS.Zip
import HandS.TupMul
import HandS.SortInts
import HandS.RevRange
import HandS.Defaults
import KE.GoesEnum
import KE.GoesMore
import HandS.More
import HandS.Dict
import HandS.Small
import HandS.Style
import HandS.SortKw
import HandS.Star
import HandS.ExcIs
import HandS.ExcField
import HandS.Rev
import HandS.HotCalls
import HandS.Iter
import HandS.Strs
import HandS.RaiseMore
import PyProof.ReprRoads
import HandS.Ends
import KE.DatumOrd
import HandS.EndBits
import HandS.Codes
import PyProof.Rows.ReprOcc
import PyProof.FitsInt
import PySem.Challenge.RW_tumbler_k10_partitions_and_breaks
set_option Elab.async false
set_option linter.all false
set_option maxRecDepth 100000
set_option maxHeartbeats 2000000
/-! super().__init__(text) in an own error's __init__, the error over an own base over ValueError -/
namespace Rf
open PySem PySem.Spec PyProof.Rows L2 NdefX
section
variable {X : Cx} {pins : List (Addr × Obj)} {σ : L2.St} {H : Hp} {s : Shared} {E : Value → Shared → Prop} {a C D u so : Addr}
/-- the wrapper ValueError.__init__ bound to the error at a, called -/
theorem mw_call {us : List Value} {Q : Value → Shared → Prop} (T : OexC X.K C) (I : Inv X pins σ H s) (e : H a = some (exo a C none)) (hu : s.heap.get? u = some (PySem.W.kxs_mw "ValueError.__init__" a)) (hl : us.length ≤ sizeLine) (h : ∀ s', Inv X pins σ H s' → Q .none s') :
    wpAny (model X.prog X.w) X.A (call (.ref u) us) Q E s := by
  obtain ⟨nm, q, N, bs, bm, sn, sub, ab, col, dd, k0, k1, k2, k3, k5, hC, hbm⟩ := T.cls
  obtain ⟨t1, ho⟩ := exo_at I.hok e
  have hCh := I.kIn _ _ hC
  obtain ⟨hp, g, d, t, os⟩ := s
  refine wpAny_call (codeAny_of_tree ?_)
  show wpAny _ X.A.in1 (callAny (.ref u) ⟨us, []⟩) _ _ _
  simp only [callAny]
  refine wpAny_bind (wpAny_load hu ?_)
  simp only [PySem.W.kxs_mw, show (Value.type "method-wrapper" == Value.type "method" || Value.type "method-wrapper" == Value.type "builtin_function_or_method" || Value.type "method-wrapper" == Value.type "method-wrapper") = true by decide, if_true]
  refine PySem.W.KFB.if_so (by decide) ?_
  refine wpAny_bind (PySem.W.check_bound_init F.excBase_ValueError.toExcCallFacts hCh ho rfl ?_)
  refine wpAny_bind (wpAny_pure (wpAny_pure ?_))
  refine ⟨plainId_quiet F.excBase_ValueError.init.plain _, codeAny_builtin F.excBase_ValueError.initEntry ?_⟩
  refine PySem.W.exc_init_tree (cls := .ref C) (t0 := t1) (dv := none) (c2 := .none) (c3 := .none) (b4 := .bool false) ho hl fun h' k hx _ => ?_
  have J := I.write (t' := t) (x := a) (e := a) (o := exo a C none) (by rw [e]; exact True.intro) (.inl rfl) k ⟨_, hx⟩ (exo_ok hx)
  have eu : upd H a (exo a C none) = H := by
    funext b
    by_cases hb : b = a
    · rw [hb, upd_same, e]
    · rw [upd_ne hb]
  rw [eu] at J
  exact h _ J
/-- super(D, a).__init__ -/
theorem sup_method {pl : Sem Bool} {Q : Value × List Value → Shared → Prop} (I : Inv X pins σ H s) (e : H a = some (exo a C none)) (hso : s.heap.get? so = some (PySem.W.ks_superObj D a C)) (hno : PySem.W.nsIn X.K cStatics "thirdparty.any" = some none)
    (hm : PySem.W.ks_superIn X.K C D "__init__" = some (some (.builtin "ValueError.__init__"))) (hB : PySem.W.subIn X.K (.ref C) (.type "ValueError") = some true)
    (h : ∀ u s', Inv X pins σ H s' → s'.heap.get? u = some (PySem.W.kxs_mw "ValueError.__init__" a) → Q (.ref u, []) s') : wpAny (model X.prog X.w) X.A (getMethod (.ref so) "__init__" pl) Q E s := by
  have XK := I.kIn
  obtain ⟨t1, ho⟩ := exo_at I.hok e
  have IA : PySem.W.InstAt s.heap a { cls := .ref C, dict := none, data := .fields #[.ref t1, .none, .none, .none, .bool false, .none] } C none := ⟨ho, rfl, rfl, trivial⟩
  have hI : PySem.W.Looks (model X.prog X.w) s.heap (isInstance (.ref a) (.type "ValueError")) true := IA.type.andThen (PySem.W.looks_subIn XK hB)
  obtain ⟨hp, g, d, t, os⟩ := s
  cases hc : PySem.W.clsIn X.K C with
  | none => unfold PySem.W.ks_superIn at hm; rw [hc] at hm; cases hm
  | some cd =>
    unfold PySem.W.ks_superIn at hm
    rw [hc] at hm
    refine PySem.W.kxs_getMethod PySem.W.kxs_ValueError hso (PySem.W.looks_opaque XK hno) (l₀ := cd.mro) ?_ rfl XK hm hI (PySem.W.ks_ne XK IA hc) (by decide) ?_
    · exact fun A Q E s k q => wpAny_bind ((PySem.W.looks_clsIn XK hc) A _ E s k (wpAny_pure q))
    · exact h _ _ (I.kept (t' := t + 1) fun b o q => Heap.get?_push_of_some _ q) (Heap.get?_push_at rfl rfl)
/-- what the def's written part says -/
structure SupAt (X : Cx) (f cda cc D : Addr) (slf : Str) : Prop where
  fu : X.env.func = some f
  co : X.env.code = .ref cda
  cl : X.env.cells.lookup ("__class__" : Str) = some cc
  ks : X.env.kindOf ("super" : Str) = some .globalImplicit
  kc : X.env.kindOf ("__class__" : Str) = some .free
  ka : X.env.kindOf slf = some .local
  hf : ∃ oc od fd osl ar, X.K.lookup f = some ⟨oc, od, .func fd, osl⟩ ∧ (fd.params.posonlyargs ++ fd.params.args).head? = some ar ∧ ar.arg = slf
  hc : ∃ ccl cdd vs ccs file tf, X.K.lookup cda = some ⟨ccl, cdd, .fields vs, ccs⟩ ∧ vs[2]? = some (.str file tf) ∧ ((X.prog.main.file : Str) == file) = true
  hcell : ∃ cl cld csl, X.K.lookup cc = some ⟨cl, cld, .cell (some (.ref D)), csl⟩
  hD : ∃ cdD, PySem.W.clsIn X.K D = some cdD
  htop : (X.prog.main.scope.names.lookup ("super" : Str)).isSome = false
  hm : X.mg "super" = none
theorem sup_base {body : List Stmt} {p0 p1 : Pos} {whole : Sem Value} {f cda cc : Addr} {slf : Str} {Q : Value → Shared → Prop} (S : SupAt X f cda cc D slf) (I : Inv X pins σ H s) (e : H a = some (exo a C none)) (hN : X.N[0]? = some slf) (hσ : σ[0]? = some (some (.ref a)))
    (hsub : PySem.W.mroIn X.K C (.ref D) = some true) (h : ∀ so s', Inv X pins σ H s' → s'.heap.get? so = some (PySem.W.ks_superObj D a C) → Q (.ref so) s') :
    _root_.PySem.wpAt (model X.prog X.w) X.A (.func body X.env) (attributeBase (.Call (.Name "super" p0) [] [] p1) "__init__" X.env whole) Q E s := by
  have XK := I.kIn
  obtain ⟨oc, od, fd, osl, ar, hf, hp, har⟩ := S.hf
  obtain ⟨ccl, cdd, vs, ccs, file, tf, hcode, hvs, hfile⟩ := S.hc
  obtain ⟨cl, cld, csl, hcell⟩ := S.hcell
  obtain ⟨cdD, hD⟩ := S.hD
  obtain ⟨t1, ho⟩ := exo_at I.hok e
  obtain ⟨oD, hD1, hD2⟩ : ∃ oD, s.heap.get? D = some oD ∧ oD.data = .cls cdD := by
    unfold PySem.W.clsIn at hD
    split at hD
    · rename_i c d cd' sl ho
      cases hD
      exact ⟨_, XK _ _ ho, rfl⟩
    · cases hD
  obtain ⟨m, hns, hloc⟩ := I.loc
  obtain ⟨u, ru, lk⟩ := hloc 0 slf (.ref a) hN hσ (.inl S.ka)
  obtain rfl : u = Value.ref a := ru
  have hv : m slf = some (.ref a) := by
    rcases lk with ⟨_, q⟩ | ⟨q | q, _⟩
    · exact q
    · rw [S.ka] at q; cases q
    · rw [S.ka] at q; cases q
  obtain ⟨mb, h1, h2⟩ := I.mod.blt
  refine PySem.ks_wpAt_super_base (env := X.env) S.ks S.kc (by decide) S.fu (XK _ _ hf) rfl hp S.co (XK _ _ hcode) rfl hvs hfile S.htop ?_
  rw [har]
  refine PySem.W.ks_loadName_global I.ok.kind S.ks (Calls.loadGlobal_builtin (by rw [I.ok.glob]; exact I.mod.glob.keeps I.bk) S.hm (by rw [I.ok.blt]; exact h1.keeps I.bk) ((h2 "super" (by decide)).trans (show bootBuiltins "super" = some (.type "super") by decide +kernel)) ⟨rfl, ?_⟩)
  refine wpAny_loadName_free I.ok.kind S.kc S.cl ⟨_, XK _ _ hcell, rfl⟩ ?_
  refine wpAny_loadName_local I.ok.kind S.ka hns hv ?_
  refine PySem.ks_wpAny_isType_cls hD1 hD2 ⟨rfl, ?_⟩
  obtain ⟨hp', g, d, t, os⟩ := s
  refine PySem.ks_wpAny_call_super hD1 hD2 ho rfl (fun c z => by cases z) (PySem.W.looks_mroIn XK hsub) (fun h' q k => ?_)
  exact h _ _ (I.kept (t' := t) k) q
theorem sup_stmt {pl : Sem Bool} {body : List Stmt} {p0 p1 p2 p3 p4 p5 : Pos} {txt : Str} {kk : Nat} {f cda cc : Addr} {slf : Str} {Q : Flow → Shared → Prop} (S : SupAt X f cda cc D slf) (T : OexC X.K C) (I : Inv X pins σ H s) (e : H a = some (exo a C none)) (hN : X.N[0]? = some slf) (hσ : σ[0]? = some (some (.ref a)))
    (hsub : PySem.W.mroIn X.K C (.ref D) = some true) (hno : PySem.W.nsIn X.K cStatics "thirdparty.any" = some none) (hm : PySem.W.ks_superIn X.K C D "__init__" = some (some (.builtin "ValueError.__init__"))) (hB : PySem.W.subIn X.K (.ref C) (.type "ValueError") = some true)
    (h : ∀ s', Inv X pins σ H s' → Q .next s')
    (he : eval (.Call (.Attribute (.Call (.Name "super" p0) [] [] p1) "__init__" p2) [.Constant (.str txt) kk p5] [] p3) X.env = (do
      let ov ← attributeBase (.Call (.Name "super" p0) [] [] p1) "__init__" X.env (eval (.Call (.Name "super" p0) [] [] p1) X.env)
      standAt p2.atName
      let (f, first) ← holding [ov] (getMethod ov "__init__" pl)
      callWith p3 f first (backTo p3 (starEach [.Constant (.str txt) kk p5] X.env)) []) := by rfl)
    (hi : interactive X.env = false := by rfl) (hs : swapsWith (.Call (.Attribute (.Call (.Name "super" p0) [] [] p1) "__init__" p2) [.Constant (.str txt) kk p5] [] p3) none p4.line X.env = pure false := by rfl) :
    _root_.PySem.wpAt (model X.prog X.w) X.A (.func body X.env) (exec (.Expr (.Call (.Attribute (.Call (.Name "super" p0) [] [] p1) "__init__" p2) [.Constant (.str txt) kk p5] [] p3) p4) X.env) Q E s := by
  refine PySem.ks_wpAt_Expr_any ?_ hi hs
  refine PySem.ks_wpAt_MethodCall ?_ he
  refine sup_base S I e hN hσ hsub fun so s1 I1 hso => ?_
  refine sup_method I1 e hso hno hm hB fun u s2 I2 hu => ?_
  refine PySem.W.kxs_callWith (i := "ValueError.__init__") (x := a) rfl ?_
  refine Calls.evalArgs_plain ?_
  refine Calls.spliced_cons ?_
  refine wpAny_Constant_str (k := kk) (pos := p5) ?_
  refine Calls.spliced_nil ⟨hu, ?_⟩
  exact mw_call T (I2.tok _) e hu (by rw [sizeLine_eq]; simp) fun s' I3 => h s' I3
end
/-- what the written part says of an __init__ whose first statement is super().__init__(text) -/
structure SupK (P : Program) (K : PySem.W.Frag) (mg : Str → Option Value) (F : NF) (f cc D : Addr) (slf : Str) : Prop where
  cl : F.cl = [(("__class__" : Str), cc)]
  ks : F.scope.names.lookup ("super" : Str) = some .globalImplicit
  kc : F.scope.names.lookup ("__class__" : Str) = some .free
  ka : F.scope.names.lookup slf = some .local
  par : ∃ ar, (F.params.posonlyargs ++ F.params.args).head? = some ar ∧ ar.arg = slf
  hc : ∃ ccl cdd vs ccs file tf, K.lookup F.c = some ⟨ccl, cdd, .fields vs, ccs⟩ ∧ vs[2]? = some (.str file tf) ∧ ((P.main.file : Str) == file) = true
  hcell : ∃ cl cld csl, K.lookup cc = some ⟨cl, cld, .cell (some (.ref D)), csl⟩
  hD : ∃ cdD, PySem.W.clsIn K D = some cdD
  htop : (P.main.scope.names.lookup ("super" : Str)).isSome = false
  hm : mg "super" = none
  hcd : PySem.W.codeIn K (.ref F.c) F.qual = true
/-- what it says of the class that is made -/
structure SupC (K : PySem.W.Frag) (C D : Addr) : Prop where
  ox : OexC K C
  sub : PySem.W.mroIn K C (.ref D) = some true
  sm : PySem.W.ks_superIn K C D "__init__" = some (some (.builtin "ValueError.__init__"))
  ve : PySem.W.subIn K (.ref C) (.type "ValueError") = some true
section
variable {CX : CXT} {P : Program} {w : World} {K : PySem.W.Frag} {mg : Str → Option Value} {base : Heap} {N ps : List Str} {F : NF} {f cc D : Addr} {k : Nat} {sp : Sp} {slf : Str} {doc pm ctv oc : Value} {od : Option Addr} {osl : Array (Option Value)}
theorem fn_super {pl : Sem Bool} {p0 p1 p2 p3 p4 p5 : Pos} {txt : Str} {kk : Nat} {rest : List Stmt} (lk : K.lookup f = some ⟨oc, od, .func (F.fd doc pm ctv), osl⟩) (W : SupK P K mg F f cc D slf) (S : NScope N ps ["__class__"] F.scope) (h0 : N[0]? = some slf) (hno : PySem.W.nsIn K cStatics "thirdparty.any" = some none)
    (hbody : F.body = .Expr (.Call (.Attribute (.Call (.Name "super" p0) [] [] p1) "__init__" p2) [.Constant (.str txt) kk p5] [] p3) p4 :: rest) (len : ∀ vs H Q E, sp vs H Q E → vs.length = ps.length)
    (hsp : ∀ vs H Q E, sp vs H Q E → ∃ a C ws, vs = .ref a :: ws ∧ SupC K C D ∧ H a = some (exo a C none))
    (he : ∀ L : Addr, eval (.Call (.Attribute (.Call (.Name "super" p0) [] [] p1) "__init__" p2) [.Constant (.str txt) kk p5] [] p3) (envF F f L) = (do
      let ov ← attributeBase (.Call (.Name "super" p0) [] [] p1) "__init__" (envF F f L) (eval (.Call (.Name "super" p0) [] [] p1) (envF F f L))
      standAt p2.atName
      let (f', first) ← holding [ov] (getMethod ov "__init__" pl)
      callWith p3 f' first (backTo p3 (starEach [.Constant (.str txt) kk p5] (envF F f L))) []))
    (hin0 : ∀ L : Addr, interactive (envF F f L) = false)
    (hs : ∀ L : Addr, swapsWith (.Call (.Attribute (.Call (.Name "super" p0) [] [] p1) "__init__" p2) [.Constant (.str txt) kk p5] [] p3) none p4.line (envF F f L) = pure false)
    (hrest : ∀ (A : Around) (outer : List Env) (s : Shared) (H : Hp) (vs : List V) (Q : VK) (E : XK), Room k (A.deeper (envF F f s.heap.objs.size)) → sp vs H Q E →
      ∃ t, PSs (ncx CX P w K mg base N F f A outer s H E) rest t ∧ t { nx := fun _ H' => Q .non H', rt := Q } (startF N vs [none]) H) :
    FnOk P w K mg base CX (k + 1) f (F.fd doc pm ctv) ps sp := by
  refine ⟨len, fun A outer s H args us vs Q E hr e0 hb r hs0 => ?_⟩
  have hl := len _ _ _ _ hs0
  have KX : K.In s.heap := e0.mod.kin.keeps fun b o e => (e0.bs b o e).1
  have lim : s.heap.NoLimit := e0.mod.nolimit.keeps fun b o e => (e0.bs b o e).1
  obtain ⟨a, C, ws, rfl, SC, ea⟩ := hsp _ _ _ _ hs0
  obtain ⟨cl0, cld, csl, hcell⟩ := W.hcell
  have CA : CellsAt F.cl ["__class__"] [none] s.heap H := by
    rw [W.cl]
    have one : ∀ {y : Str} {c : Addr}, [(("__class__" : Str), cc)].lookup y = some c → y = "__class__" ∧ c = cc := fun {y c} q => by
      have := PySem.mem_of_lookup q
      simpa using this
    refine ⟨rfl, fun y c q => ?_, fun x y c q1 q2 => ?_, fun i y q => ?_⟩
    · obtain ⟨rfl, rfl⟩ := one q
      exact ⟨(e0.bs _ _ (e0.mod.kin _ _ hcell)).2, _, _, KX _ _ hcell, rfl⟩
    · rw [(one q1).1, (one q2).1]
    · cases i with
      | zero =>
        have : y = "__class__" := by simpa using q.symm
        subst this
        exact ⟨cc, by simp [List.lookup], fun v z => by simp at z⟩
      | succ i => simp at q
  refine PySem.ks_codeAny_call_defAt (fd := F.fd doc pm ctv) (body := F.body) (binds := ps.zip us) hr.depth (KX _ _ lk) rfl lim (PySem.W.codeRec_of KX W.hcd) rfl hb S.nocell (fun ⟨n, v⟩ hy => S.par n (List.of_mem_zip hy).1) (fun h₀ hns kp => ?_) S.co S.gen S.kind
  have I : Inv (ncx CX P w K mg base N F f A outer s H E) [] (startF N (.ref a :: ws) [none]) H { s with heap := h₀, toks := s.toks + (ps.zip us).length } := inv_startN S hr.hd e0 hl r CA hns kp
  obtain ⟨t, ht, hq⟩ := hrest A outer s H (.ref a :: ws) Q E (hr.deeper _) hs0
  have SA : SupAt (ncx CX P w K mg base N F f A outer s H E) f F.c cc D slf := by
    obtain ⟨ar, p1, p2⟩ := W.par
    refine ⟨rfl, rfl, ?_, W.ks, W.kc, W.ka, ⟨_, _, _, _, ar, lk, p1, p2⟩, W.hc, W.hcell, W.hD, W.htop, W.hm⟩
    show F.cl.lookup _ = _
    rw [W.cl]; simp [List.lookup]
  show _root_.PySem.wpAt (model P w) (A.deeper (envF F f s.heap.objs.size)) (.func F.body (envF F f s.heap.objs.size)) (execs F.body (envF F f s.heap.objs.size)) _ _ _
  rw [hbody]
  refine PySem.ks_wpAt_execs_cons ?_
  refine sup_stmt (X := ncx CX P w K mg base N F f A outer s H E) SA SC.ox I ea h0 rfl SC.sub hno SC.sm SC.ve (fun s' J => ?_) (he _) (hin0 _) (hs _)
  refine PySem.wpAt_of_wpAny ?_
  refine wpAny_mono (ht.run [] s' _ H _ J hq) (fun fl s' hs => ?_) fun e s' hs => hs
  have fin : ∀ {σ' : L2.St} {H' : Hp} {v : V} {u : Value}, Inv (ncx CX P w K mg base N F f A outer s H E) [] σ' H' s' → L2.RelV v u → Q v H' → CE outer P w H s Q u s' :=
    fun {σ' H' v u} J rv q => ⟨v, H', J.os, J.bare, J.base, J.hok, rv, q⟩
  cases fl with
  | ret u =>
    obtain ⟨v, σ', H', J, rv, q⟩ := hs
    exact fin J rv q
  | next =>
    obtain ⟨σ', H', J, q⟩ := hs
    exact fin (v := V.non) (u := Value.none) J rfl q
  | brk =>
    obtain ⟨_, _, _, q⟩ := hs
    exact False.elim q
  | cont =>
    obtain ⟨_, _, _, q⟩ := hs
    exact False.elim q
end
end Rf

set_option maxHeartbeats 1000000
/-! A layer over HandS: plain data D, an abstract heap of lists and dicts by number, and for each construct a plain Lean function. -/
namespace Rf
open PySem PySem.Spec PyProof.Rows L2

/-- a value as plain data; `ref i`: the i-th thing of the abstract heap; `rol`: a list that is only read -/
inductive D where
  | non | bl (b : Bool) | int (i : Int) | str (x : Str) | ty (n : String) | tup (ds : List D) | rol (ds : List D) | kt (ds : List D) | ref (i : Nat)

inductive AO where
  | lst (ds : List D)
  | dK (kvs : List (Key × D))
  | dT (kvs : List (List Key × D))
  | lk (kvs : List (Key × D)) (od : Obj) (ws : List (Key × V))
abbrev AH := List AO
abbrev AE := List (Option D)

/-- what an expression ends in -/
inductive ER where
  | ok (d : D) (h : AH)
  | exc (c : Str) (fs : List (Str × D)) (h : AH)
  | stuck
/-- what a statement ends in -/
inductive SR where
  | nx (e : AE) (h : AH)
  | rt (d : D) (h : AH)
  | bk (e : AE) (h : AH)
  | ct (e : AE) (h : AH)
  | exc (c : Str) (fs : List (Str × D)) (e : AE) (h : AH)
  | stuck
/-- what a list of expressions ends in -/
inductive LR where
  | ok (ds : List D) (h : AH)
  | exc (c : Str) (fs : List (Str × D)) (h : AH)
  | stuck

/-- a list that nobody writes -/
def RoL (K : PySem.W.Frag) (H : Hp) (a : Addr) (vs : List V) : Prop :=
  (∃ o, H a = some (.frz o (.lst vs))) ∨ ∃ (o : Obj) (its : Array Value) (n : Nat), K.lookup a = some o ∧ o.cls = .type "list" ∧ o.dict = none ∧ o.data = .seq its n ∧ its.size ≤ sizeLine ∧ Vals vs its.toList
theorem RoL.sq {K : PySem.W.Frag} {H : Hp} {a : Addr} {vs : List V} (h : RoL K H a vs) : SqL K H a vs := by
  rcases h with ⟨o, e⟩ | h
  · exact .inl (.inr ⟨o, e⟩)
  · exact .inr h

/-- a tuple whose object is known -/
def KtL (H : Hp) (a : Addr) (vs : List V) : Prop := ∃ o, H a = some (.frz o (.tup vs)) ∧ o.dict = none
theorem KtL.sq {K : PySem.W.Frag} {H : Hp} {a : Addr} {vs : List V} (h : KtL H a vs) : SqT K H a vs := by
  obtain ⟨o, e, _⟩ := h
  exact .inl (.inr ⟨o, e⟩)
mutual
def RD (K : PySem.W.Frag) (ι : Nat → Addr) (n : Nat) (H : Hp) : D → V → Prop
  | .non, v => v = .non
  | .bl b, v => v = .bl b
  | .int i, v => v = .int i
  | .str x, v => v = .str x
  | .ty s, v => v = .ty s
  | .tup ds, v => ∃ a vs, v = .ref a ∧ H a = some (.tup vs) ∧ RDs K ι n H ds vs
  | .rol ds, v => ∃ a vs, v = .ref a ∧ RoL K H a vs ∧ RDs K ι n H ds vs
  | .kt ds, v => ∃ a vs, v = .ref a ∧ KtL H a vs ∧ RDs K ι n H ds vs
  | .ref i, v => i < n ∧ v = .ref (ι i)
def RDs (K : PySem.W.Frag) (ι : Nat → Addr) (n : Nat) (H : Hp) : List D → List V → Prop
  | [], vs => vs = []
  | d :: ds, vs => ∃ v r, vs = v :: r ∧ RD K ι n H d v ∧ RDs K ι n H ds r
end
def RO (K : PySem.W.Frag) (ι : Nat → Addr) (n : Nat) (H : Hp) : AO → Addr → Prop
  | .lst ds, a => ∃ vs, H a = some (.lst vs) ∧ RDs K ι n H ds vs
  | .dK kvs, a => ∃ ws, H a = some (.dK ws) ∧ kvs.map (·.1) = ws.map (·.1) ∧ RDs K ι n H (kvs.map (·.2)) (ws.map (·.2))
  | .dT kvs, a => ∃ ws, H a = some (.dT ws) ∧ kvs.map (·.1) = ws.map (·.1) ∧ RDs K ι n H (kvs.map (·.2)) (ws.map (·.2))
  | .lk kvs od ws, a => H a = some (.frz od (.dK ws)) ∧ kvs.map (·.1) = ws.map (·.1) ∧ RDs K ι n H (kvs.map (·.2)) (ws.map (·.2))
/-- may be tracked: written, or a locked dict -/
def Mu : Option HO → Prop
  | some (.lst _) => True
  | some (.dK _) => True
  | some (.dT _) => True
  | some (.frz _ (.dK _)) => True
  | _ => False

structure Rel (K : PySem.W.Frag) (ι : Nat → Addr) (h : AH) (H : Hp) : Prop where
  inj : ∀ i j, i < h.length → j < h.length → ι i = ι j → i = j
  ob : ∀ i o, h[i]? = some o → RO K ι h.length H o (ι i)
structure Ext (ι : Nat → Addr) (n : Nat) (H : Hp) (ι' : Nat → Addr) (n' : Nat) (H' : Hp) : Prop where
  le : n ≤ n'
  ag : ∀ i, i < n → ι' i = ι i
  nw : ∀ i, n ≤ i → i < n' → H (ι' i) = none
  fr : ∀ b o, H b = some o → (∀ i, i < n → ι i ≠ b) → H' b = some o
  st : ∀ b, H' b = none → H b = none
section
variable {K : PySem.W.Frag} {ι ι' ι2 : Nat → Addr} {n n' n2 : Nat} {H H' H2 : Hp} {h h' : AH} {d : D} {ds es : List D} {v : V} {vs ws : List V} {a : Addr} {i : Nat} {o : AO}
theorem Ext.refl : Ext ι n H ι n H := ⟨Nat.le_refl _, fun _ _ => rfl, fun i h1 h2 => absurd h2 (Nat.not_lt.mpr h1), fun _ _ e _ => e, fun _ e => e⟩
theorem Ext.trans (x : Ext ι n H ι' n' H') (y : Ext ι' n' H' ι2 n2 H2) : Ext ι n H ι2 n2 H2 := by
  refine ⟨Nat.le_trans x.le y.le, fun i hi => (y.ag i (Nat.lt_of_lt_of_le hi x.le)).trans (x.ag i hi), fun i h1 h2 => ?_, fun b o e hb => ?_, fun b e => x.st b (y.st b e)⟩
  · by_cases hi : i < n'
    · rw [y.ag i hi]; exact x.nw i h1 hi
    · exact x.st _ (y.nw i (Nat.not_lt.mp hi) h2)
  · refine y.fr b o (x.fr b o e hb) fun i hi e' => ?_
    by_cases h1 : i < n
    · exact hb i h1 (by rw [← x.ag i h1]; exact e')
    · have q := x.nw i (Nat.not_lt.mp h1) hi
      rw [e', e] at q; cases q

/-! ### the relation of data -/
theorem RD.int {j : Int} : RD K ι n H (.int j) v ↔ v = .int j := by unfold RD; exact Iff.rfl
theorem RD.bl {j : Bool} : RD K ι n H (.bl j) v ↔ v = .bl j := by unfold RD; exact Iff.rfl
theorem RD.str {j : Str} : RD K ι n H (.str j) v ↔ v = .str j := by unfold RD; exact Iff.rfl
theorem RD.non : RD K ι n H .non v ↔ v = .non := by unfold RD; exact Iff.rfl
theorem RD.ty {j : String} : RD K ι n H (.ty j) v ↔ v = .ty j := by unfold RD; exact Iff.rfl
theorem RD.ref : RD K ι n H (.ref i) v ↔ i < n ∧ v = .ref (ι i) := by unfold RD; exact Iff.rfl
theorem RD.tupX : RD K ι n H (.tup ds) v ↔ ∃ a vs, v = .ref a ∧ H a = some (.tup vs) ∧ RDs K ι n H ds vs := by
  constructor
  · intro h; unfold RD at h; exact h
  · intro h; unfold RD; exact h
theorem RD.tup.mp (r : RD K ι n H (.tup ds) v) : ∃ a vs, v = .ref a ∧ SqT K H a vs ∧ RDs K ι n H ds vs := by
  obtain ⟨a, vs, e, q, r⟩ := RD.tupX.mp r
  exact ⟨a, vs, e, .inl (.inl q), r⟩
theorem RD.tup.mpr (r : ∃ a vs, v = .ref a ∧ H a = some (.tup vs) ∧ RDs K ι n H ds vs) : RD K ι n H (.tup ds) v := RD.tupX.mpr r
theorem RD.kt : RD K ι n H (.kt ds) v ↔ ∃ a vs, v = .ref a ∧ KtL H a vs ∧ RDs K ι n H ds vs := by
  constructor
  · intro h; unfold RD at h; exact h
  · intro h; unfold RD; exact h
theorem RD.rol : RD K ι n H (.rol ds) v ↔ ∃ a vs, v = .ref a ∧ RoL K H a vs ∧ RDs K ι n H ds vs := by
  constructor
  · intro h; unfold RD at h; exact h
  · intro h; unfold RD; exact h
theorem RDs.nil : RDs K ι n H [] vs ↔ vs = [] := by unfold RDs; exact Iff.rfl
theorem RDs.cons : RDs K ι n H (d :: ds) vs ↔ ∃ v r, vs = v :: r ∧ RD K ι n H d v ∧ RDs K ι n H ds r := by
  constructor
  · intro h; unfold RDs at h; exact h
  · intro h; unfold RDs; exact h
theorem RDs.cons' (h1 : RD K ι n H d v) (h2 : RDs K ι n H ds vs) : RDs K ι n H (d :: ds) (v :: vs) := RDs.cons.mpr ⟨v, vs, rfl, h1, h2⟩
theorem RDs.nil' : RDs K ι n H [] [] := RDs.nil.mpr rfl
theorem RDs.length : ∀ {ds : List D} {vs : List V}, RDs K ι n H ds vs → ds.length = vs.length
  | [], vs, h => by rw [RDs.nil.mp h]; rfl
  | d :: ds, vs, h => by
    obtain ⟨v, r, rfl, _, h2⟩ := RDs.cons.mp h
    simp [RDs.length h2]
theorem RDs.get : ∀ {ds : List D} {vs : List V} {i : Nat} {d : D}, RDs K ι n H ds vs → ds[i]? = some d → ∃ v, vs[i]? = some v ∧ RD K ι n H d v
  | [], vs, i, d, h, e => by simp at e
  | d' :: ds, vs, 0, d, h, e => by
    obtain ⟨v, r, rfl, h1, h2⟩ := RDs.cons.mp h
    simp at e; subst e
    exact ⟨v, rfl, h1⟩
  | d' :: ds, vs, i + 1, d, h, e => by
    obtain ⟨v, r, rfl, h1, h2⟩ := RDs.cons.mp h
    simpa using RDs.get h2 (by simpa using e)
theorem RDs.append : ∀ {ds es : List D} {vs ws : List V}, RDs K ι n H ds vs → RDs K ι n H es ws → RDs K ι n H (ds ++ es) (vs ++ ws)
  | [], es, vs, ws, h, h' => by rw [RDs.nil.mp h]; exact h'
  | d :: ds, es, vs, ws, h, h' => by
    obtain ⟨v, r, rfl, h1, h2⟩ := RDs.cons.mp h
    exact RDs.cons' h1 (RDs.append h2 h')
theorem RDs.take : ∀ {ds : List D} {vs : List V} (k : Nat), RDs K ι n H ds vs → RDs K ι n H (ds.take k) (vs.take k)
  | _, _, 0, h => by simp only [List.take_zero]; exact RDs.nil'
  | [], vs, k + 1, h => by rw [RDs.nil.mp h]; exact RDs.nil'
  | d :: ds, vs, k + 1, h => by
    obtain ⟨v, r, rfl, h1, h2⟩ := RDs.cons.mp h
    exact RDs.cons' h1 (RDs.take k h2)
theorem RDs.drop : ∀ {ds : List D} {vs : List V} (k : Nat), RDs K ι n H ds vs → RDs K ι n H (ds.drop k) (vs.drop k)
  | _, _, 0, h => by simpa using h
  | [], vs, k + 1, h => by rw [RDs.nil.mp h]; exact RDs.nil'
  | d :: ds, vs, k + 1, h => by
    obtain ⟨v, r, rfl, h1, h2⟩ := RDs.cons.mp h
    simpa using RDs.drop k h2
theorem RDs.set : ∀ {ds : List D} {vs : List V} (k : Nat), RDs K ι n H ds vs → RD K ι n H d v → RDs K ι n H (ds.set k d) (vs.set k v)
  | [], vs, k, h, _ => by rw [RDs.nil.mp h]; exact RDs.nil'
  | d' :: ds, vs, 0, h, r => by
    obtain ⟨v', r', rfl, h1, h2⟩ := RDs.cons.mp h
    exact RDs.cons' r h2
  | d' :: ds, vs, k + 1, h, r => by
    obtain ⟨v', r', rfl, h1, h2⟩ := RDs.cons.mp h
    exact RDs.cons' h1 (RDs.set k h2 r)
theorem RDs.eraseIdx : ∀ {ds : List D} {vs : List V} (k : Nat), RDs K ι n H ds vs → RDs K ι n H (ds.eraseIdx k) (vs.eraseIdx k)
  | [], vs, k, h => by rw [RDs.nil.mp h]; exact RDs.nil'
  | d' :: ds, vs, 0, h => by
    obtain ⟨v', r', rfl, h1, h2⟩ := RDs.cons.mp h
    exact h2
  | d' :: ds, vs, k + 1, h => by
    obtain ⟨v', r', rfl, h1, h2⟩ := RDs.cons.mp h
    exact RDs.cons' h1 (RDs.eraseIdx k h2)
theorem RDs.reverse : ∀ {ds : List D} {vs : List V}, RDs K ι n H ds vs → RDs K ι n H ds.reverse vs.reverse
  | [], vs, h => by rw [RDs.nil.mp h]; exact RDs.nil'
  | d' :: ds, vs, h => by
    obtain ⟨v', r', rfl, h1, h2⟩ := RDs.cons.mp h
    simp only [List.reverse_cons]
    exact RDs.append (RDs.reverse h2) (RDs.cons' h1 RDs.nil')
theorem RDs.dropLast {ds : List D} {vs : List V} (h : RDs K ι n H ds vs) : RDs K ι n H ds.dropLast vs.dropLast := by
  rw [List.dropLast_eq_take, List.dropLast_eq_take, h.length]
  exact h.take _
theorem RDs.rep {ds : List D} {vs : List V} (h : RDs K ι n H ds vs) : ∀ k : Nat, RDs K ι n H (List.replicate k ds).flatten (List.replicate k vs).flatten
  | 0 => RDs.nil'
  | k + 1 => by
    rw [List.replicate_succ, List.replicate_succ, List.flatten_cons, List.flatten_cons]
    exact RDs.append h (RDs.rep h k)

/-- what is tracked within the heap of lists is no tuple and not locked -/
theorem Rel.mut (R : Rel K ι h H) (hi : i < h.length) : Mu (H (ι i)) := by
  have e : h[i]? = some h[i] := List.getElem?_eq_getElem hi
  have q := R.ob i _ e
  cases r : h[i] with
  | lst ds => rw [r] at q; obtain ⟨vs, e, _⟩ := q; rw [e]; trivial
  | dK ds => rw [r] at q; obtain ⟨vs, e, _⟩ := q; rw [e]; trivial
  | dT ds => rw [r] at q; obtain ⟨vs, e, _⟩ := q; rw [e]; trivial
  | lk ds od ws => rw [r] at q; obtain ⟨e, _⟩ := q; rw [e]; trivial
theorem Rel.fix (R : Rel K ι h H) (x : Ext ι h.length H ι' n' H') {o : HO} (e : H a = some o) (m : ¬ Mu (some o)) : H' a = some o :=
  x.fr a o e fun i hi z => by
    have q := R.mut hi
    rw [z, e] at q
    exact m q
theorem Rel.sqT (R : Rel K ι h H) (x : Ext ι h.length H ι' n' H') (q : SqT K H a vs) : SqT K H' a vs := by
  rcases q with (q | ⟨o, q⟩) | q
  · exact .inl (.inl (R.fix x q fun z => z))
  · exact .inl (.inr ⟨o, R.fix x q fun z => z⟩)
  · exact .inr q
theorem Rel.roL (R : Rel K ι h H) (x : Ext ι h.length H ι' n' H') (q : RoL K H a vs) : RoL K H' a vs := by
  rcases q with ⟨o, q⟩ | q
  · exact .inl ⟨o, R.fix x q fun z => z⟩
  · exact .inr q
/-- data keeps its meaning where tuples are kept -/
structure Grow (K : PySem.W.Frag) (ι : Nat → Addr) (n : Nat) (H : Hp) (ι' : Nat → Addr) (n' : Nat) (H' : Hp) : Prop where
  le : n ≤ n'
  ag : ∀ i, i < n → ι' i = ι i
  tp : ∀ a vs, H a = some (.tup vs) → H' a = some (.tup vs)
  ro : ∀ a vs, RoL K H a vs → RoL K H' a vs
  kt : ∀ a vs, KtL H a vs → KtL H' a vs
theorem Ext.grow (x : Ext ι h.length H ι' n' H') (R : Rel K ι h H) : Grow K ι h.length H ι' n' H' := ⟨x.le, x.ag, fun _ _ q => R.fix x q fun z => z, fun _ _ q => R.roL x q, fun _ _ q => let ⟨o, e, d⟩ := q; ⟨o, R.fix x e fun z => z, d⟩⟩
mutual
theorem RD.mono (g : Grow K ι n H ι' n' H') : ∀ {d : D} {v : V}, RD K ι n H d v → RD K ι' n' H' d v
  | .non, v, h => by unfold RD at h ⊢; exact h
  | .bl _, v, h => by unfold RD at h ⊢; exact h
  | .int _, v, h => by unfold RD at h ⊢; exact h
  | .str _, v, h => by unfold RD at h ⊢; exact h
  | .ty _, v, h => by unfold RD at h ⊢; exact h
  | .tup ds, v, h => by
    unfold RD at h ⊢
    obtain ⟨a, vs, e, q, r⟩ := h
    exact ⟨a, vs, e, g.tp a vs q, RDs.mono g r⟩
  | .rol ds, v, h => by
    unfold RD at h ⊢
    obtain ⟨a, vs, e, q, r⟩ := h
    exact ⟨a, vs, e, g.ro a vs q, RDs.mono g r⟩
  | .kt ds, v, h => by
    unfold RD at h ⊢
    obtain ⟨a, vs, e, q, r⟩ := h
    exact ⟨a, vs, e, g.kt a vs q, RDs.mono g r⟩
  | .ref i, v, h => by
    unfold RD at h ⊢
    exact ⟨Nat.lt_of_lt_of_le h.1 g.le, by rw [g.ag i h.1]; exact h.2⟩
theorem RDs.mono (g : Grow K ι n H ι' n' H') : ∀ {ds : List D} {vs : List V}, RDs K ι n H ds vs → RDs K ι' n' H' ds vs
  | [], vs, h => by unfold RDs at h ⊢; exact h
  | d :: ds, vs, h => by
    unfold RDs at h ⊢
    obtain ⟨v, r, e, h1, h2⟩ := h
    exact ⟨v, r, e, RD.mono g h1, RDs.mono g h2⟩
end
theorem RO.mono {H0 : Hp} (g : Grow K ι n H ι' n' H') (e : H' a = H a) : RO K ι n H o a → RO K ι' n' H' o a := by
  cases o with
  | lst ds => rintro ⟨vs, q, r⟩; exact ⟨vs, e.trans q, r.mono g⟩
  | dK kvs => rintro ⟨vs, q, k, r⟩; exact ⟨vs, e.trans q, k, r.mono g⟩
  | dT kvs => rintro ⟨vs, q, k, r⟩; exact ⟨vs, e.trans q, k, r.mono g⟩
  | lk kvs od ws => rintro ⟨q, k, r⟩; exact ⟨e.trans q, k, r.mono g⟩

/-! ### the slots -/
structure RE (K : PySem.W.Frag) (ι : Nat → Addr) (n : Nat) (H : Hp) (env : AE) (σ : List (Option V)) : Prop where
  len : env.length = σ.length
  at_ : ∀ (i : Nat) (d : D), env[i]? = some (some d) → ∃ v : V, σ[i]? = some (some v) ∧ RD K ι n H d v
theorem RE.mono {env : AE} {σ : List (Option V)} (g : Grow K ι n H ι' n' H') (h : RE K ι n H env σ) : RE K ι' n' H' env σ :=
  ⟨h.len, fun i d e => let ⟨v, e1, r⟩ := h.at_ i d e; ⟨v, e1, r.mono g⟩⟩
theorem RE.set {env : AE} {σ : List (Option V)} (h : RE K ι n H env σ) (i : Nat) (r : RD K ι n H d v) : RE K ι n H (env.set i (some d)) (σ.set i (some v)) := by
  refine ⟨by simp [h.len], fun j d' e => ?_⟩
  by_cases hj : i = j
  · subst hj
    by_cases hl : i < env.length
    · rw [List.getElem?_set_self hl] at e
      have e' : d = d' := by simpa using e
      subst e'
      exact ⟨v, List.getElem?_set_self (by rw [← h.len]; exact hl), r⟩
    · rw [List.getElem?_eq_none (by simpa using hl)] at e; cases e
  · rw [List.getElem?_set_ne hj] at e ⊢
    exact h.at_ j d' e
theorem RE.forget {env : AE} {σ : List (Option V)} (h : RE K ι n H env σ) (i : Nat) (x : Option V) : RE K ι n H (env.set i none) (σ.set i x) := by
  refine ⟨by simp [h.len], fun j d' e => ?_⟩
  by_cases hj : i = j
  · subst hj
    by_cases hl : i < env.length
    · rw [List.getElem?_set_self hl] at e; cases e
    · rw [List.getElem?_eq_none (by simpa using hl)] at e; cases e
  · rw [List.getElem?_set_ne hj] at e ⊢
    exact h.at_ j d' e
end
end Rf

set_option maxHeartbeats 1000000
namespace Rf
open PySem PySem.Spec PyProof.Rows L2

/-- the own dict of an exception -/
def XD (K : PySem.W.Frag) (ι : Nat → Addr) (n : Nat) (H : Hp) (d : Option Addr) (fs : List (Str × D)) : Prop := match d with
  | some dd => ∃ ws : List (Str × V), H dd = some (.xd ws) ∧ fs.map (·.1) = ws.map (·.1) ∧ RDs K ι n H (fs.map (·.2)) (ws.map (·.2))
  | none => fs = []
/-- the exception that a suite handles: its slot, its address, class, dict, fields -/
structure ExI where
  i : Nat
  a : Addr
  C : Addr
  c : Str
  d : Option Addr
  fs : List (Str × D)
structure Ct where
  X : Cx
  W : WX
  ea : Option ExI
def EA (K : PySem.W.Frag) (ι : Nat → Addr) (n : Nat) (H : Hp) (ea : Option ExI) (env : AE) (σ : List (Option V)) : Prop := match ea with
  | none => True
  | some x => σ[x.i]? = some (some (.ref x.a)) ∧ (∀ d, env[x.i]? ≠ some (some d)) ∧ XD K ι n H x.d x.fs
structure RVK (K : PySem.W.Frag) (ea : Option ExI) (ι : Nat → Addr) (n : Nat) (H : Hp) (env : AE) (σ : List (Option V)) : Prop where
  re : RE K ι n H env σ
  ea : EA K ι n H ea env σ
abbrev RV (C : Ct) (ι : Nat → Addr) (n : Nat) (H : Hp) (env : AE) (σ : List (Option V)) : Prop := RVK C.X.K C.ea ι n H env σ
section
variable {K : PySem.W.Frag} {C : Ct} {ι ι' ι1 : Nat → Addr} {n n' n1 : Nat} {H H' H1 : Hp} {h h' h1 : AH} {env : AE} {σ : List (Option V)} {d : D} {ds : List D} {v : V} {vs : List V} {a : Addr} {i : Nat}
theorem Rel.xd (R : Rel K ι h H) (x : Ext ι h.length H ι' n' H') {d : Option Addr} {fs : List (Str × D)} (q : XD K ι h.length H d fs) : XD K ι' n' H' d fs := by
  cases d with
  | none => exact q
  | some dd =>
    obtain ⟨ws, e, k, r⟩ := q
    exact ⟨ws, R.fix x e fun z => z, k, r.mono (x.grow R)⟩
theorem RV.ext (R : Rel C.X.K ι h H) (x : Ext ι h.length H ι' n' H') (e : RV C ι h.length H env σ) : RV C ι' n' H' env σ := by
  refine ⟨e.re.mono (x.grow R), ?_⟩
  have q := e.ea
  unfold EA at q ⊢
  cases r : C.ea with
  | none => trivial
  | some y =>
    rw [r] at q
    exact ⟨q.1, q.2.1, R.xd x q.2.2⟩
theorem RV.set (e : RV C ι n H env σ) (i : Nat) (r : RD C.X.K ι n H d v) (hi : ∀ x, C.ea = some x → x.i ≠ i) : RV C ι n H (env.set i (some d)) (σ.set i (some v)) := by
  refine ⟨e.re.set i r, ?_⟩
  have q := e.ea
  unfold EA at q ⊢
  cases z : C.ea with
  | none => trivial
  | some y =>
    rw [z] at q
    have hne := hi y z
    refine ⟨by rw [List.getElem?_set_ne (Ne.symm hne)]; exact q.1, fun d' e' => q.2.1 d' ?_, q.2.2⟩
    rw [List.getElem?_set_ne (Ne.symm hne)] at e'
    exact e'

/-! ### what must hold behind -/
def PostE (C : Ct) (ι : Nat → Addr) (n : Nat) (H : Hp) (σ : List (Option V)) (o : ER) (Q : VK) : Prop := match o with
  | .ok d h' => ∀ ι' H' v, Ext ι n H ι' h'.length H' → Rel C.X.K ι' h' H' → RD C.X.K ι' h'.length H' d v → Q v H'
  | .exc c fs h' => ∀ ι' H' Cl dd, Ext ι n H ι' h'.length H' → Rel C.X.K ι' h' H' → C.X.mg c = some (.ref Cl) → XD C.X.K ι' h'.length H' dd fs → C.W (.ref Cl) dd σ H'
  | .stuck => False
def PostL (C : Ct) (ι : Nat → Addr) (n : Nat) (H : Hp) (σ : List (Option V)) (o : LR) (Q : List V → Hp → Prop) : Prop := match o with
  | .ok ds h' => ∀ ι' H' vs, Ext ι n H ι' h'.length H' → Rel C.X.K ι' h' H' → RDs C.X.K ι' h'.length H' ds vs → Q vs H'
  | .exc c fs h' => ∀ ι' H' Cl dd, Ext ι n H ι' h'.length H' → Rel C.X.K ι' h' H' → C.X.mg c = some (.ref Cl) → XD C.X.K ι' h'.length H' dd fs → C.W (.ref Cl) dd σ H'
  | .stuck => False
def PostT (C : Ct) (ι : Nat → Addr) (n : Nat) (H : Hp) (σ : List (Option V)) (o : ER) (Q : Bool → Hp → Prop) : Prop := match o with
  | .ok d h' => ∃ b, d = .bl b ∧ ∀ ι' H', Ext ι n H ι' h'.length H' → Rel C.X.K ι' h' H' → Q b H'
  | .exc c fs h' => ∀ ι' H' Cl dd, Ext ι n H ι' h'.length H' → Rel C.X.K ι' h' H' → C.X.mg c = some (.ref Cl) → XD C.X.K ι' h'.length H' dd fs → C.W (.ref Cl) dd σ H'
  | .stuck => False
def PostS (C : Ct) (ι : Nat → Addr) (n : Nat) (H : Hp) (o : SR) (D : Ends) : Prop := match o with
  | .nx env' h' => ∀ ι' H' σ', Ext ι n H ι' h'.length H' → Rel C.X.K ι' h' H' → RV C ι' h'.length H' env' σ' → D.nx σ' H'
  | .rt d h' => ∀ ι' H' v, Ext ι n H ι' h'.length H' → Rel C.X.K ι' h' H' → RD C.X.K ι' h'.length H' d v → D.rt v H'
  | .bk env' h' => ∀ ι' H' σ', Ext ι n H ι' h'.length H' → Rel C.X.K ι' h' H' → RV C ι' h'.length H' env' σ' → D.bk σ' H'
  | .ct env' h' => ∀ ι' H' σ', Ext ι n H ι' h'.length H' → Rel C.X.K ι' h' H' → RV C ι' h'.length H' env' σ' → D.ct σ' H'
  | .exc c fs env' h' => ∀ ι' H' σ' Cl dd, Ext ι n H ι' h'.length H' → Rel C.X.K ι' h' H' → RV C ι' h'.length H' env' σ' → C.X.mg c = some (.ref Cl) → XD C.X.K ι' h'.length H' dd fs → C.W (.ref Cl) dd σ' H'
  | .stuck => False
theorem PostE.shift {o : ER} {Q : VK} (p : PostE C ι n H σ o Q) (x : Ext ι n H ι1 n1 H1) : PostE C ι1 n1 H1 σ o Q := by
  cases o with
  | ok d h' => exact fun ι' H' v y => p ι' H' v (x.trans y)
  | exc c fs h' => exact fun ι' H' Cl dd y => p ι' H' Cl dd (x.trans y)
  | stuck => exact p
theorem PostL.shift {o : LR} {Q : List V → Hp → Prop} (p : PostL C ι n H σ o Q) (x : Ext ι n H ι1 n1 H1) : PostL C ι1 n1 H1 σ o Q := by
  cases o with
  | ok d h' => exact fun ι' H' v y => p ι' H' v (x.trans y)
  | exc c fs h' => exact fun ι' H' Cl dd y => p ι' H' Cl dd (x.trans y)
  | stuck => exact p
theorem PostT.shift {o : ER} {Q : Bool → Hp → Prop} (p : PostT C ι n H σ o Q) (x : Ext ι n H ι1 n1 H1) : PostT C ι1 n1 H1 σ o Q := by
  cases o with
  | ok d h' =>
    obtain ⟨b, e, p⟩ := p
    exact ⟨b, e, fun ι' H' y => p ι' H' (x.trans y)⟩
  | exc c fs h' => exact fun ι' H' Cl dd y => p ι' H' Cl dd (x.trans y)
  | stuck => exact p
theorem PostS.shift {o : SR} {D : Ends} (p : PostS C ι n H o D) (x : Ext ι n H ι1 n1 H1) : PostS C ι1 n1 H1 o D := by
  cases o with
  | nx e h' => exact fun ι' H' s y => p ι' H' s (x.trans y)
  | rt e h' => exact fun ι' H' s y => p ι' H' s (x.trans y)
  | bk e h' => exact fun ι' H' s y => p ι' H' s (x.trans y)
  | ct e h' => exact fun ι' H' s y => p ι' H' s (x.trans y)
  | exc c fs e h' => exact fun ι' H' s Cl dd y => p ι' H' s Cl dd (x.trans y)
  | stuck => exact p
end

/-! ### the judgements: the def's piece e is done by the plain function m -/
abbrev EM := AE → AH → ER
abbrev LM := AE → AH → LR
abbrev SM := AE → AH → SR
structure SimE (C : Ct) (t : TE) (m : EM) : Prop where
  run : ∀ (env : AE) (h : AH) (σ : List (Option V)) (H : Hp) (ι : Nat → Addr) (Q : VK), Rel C.X.K ι h H → RV C ι h.length H env σ → PostE C ι h.length H σ (m env h) Q → t σ H Q
structure SimT (C : Ct) (t : TT) (m : EM) : Prop where
  run : ∀ (env : AE) (h : AH) (σ : List (Option V)) (H : Hp) (ι : Nat → Addr) (Q : Bool → Hp → Prop), Rel C.X.K ι h H → RV C ι h.length H env σ → PostT C ι h.length H σ (m env h) Q → t σ H Q
structure SimL (C : Ct) (t : TA) (m : LM) : Prop where
  run : ∀ (env : AE) (h : AH) (σ : List (Option V)) (H : Hp) (ι : Nat → Addr) (Q : List V → Hp → Prop), Rel C.X.K ι h H → RV C ι h.length H env σ → PostL C ι h.length H σ (m env h) Q → t σ H Q
structure SimS (C : Ct) (t : TS) (m : SM) : Prop where
  run : ∀ (env : AE) (h : AH) (σ : List (Option V)) (H : Hp) (ι : Nat → Addr) (D : Ends), Rel C.X.K ι h H → RV C ι h.length H env σ → PostS C ι h.length H (m env h) D → t D σ H
def ME (C : Ct) (e : Expr) (m : EM) : Prop := ∃ t, PE C.X e t ∧ SimE C t m
def MT (C : Ct) (e : Expr) (m : EM) : Prop := ∃ t, PT C.X e t ∧ SimT C t m
def MW (C : Ct) (e : Expr) (m : EM) : Prop := ∃ t, PW C.X e t ∧ SimT C t m
def MA (C : Ct) (es : List Expr) (m : LM) : Prop := ∃ t, PA C.X es t ∧ SimL C t m
def MS (C : Ct) (s : Stmt) (m : SM) : Prop := ∃ t, PS C.X s t ∧ SimS C t m
def MB (C : Ct) (s : List Stmt) (m : SM) : Prop := ∃ t, PSs C.X s t ∧ SimS C t m

/-! ### the plain functions of the constructs -/
def ER.then (o : ER) (f : D → AH → ER) : ER := match o with
  | .ok d h => f d h
  | .exc c fs h => .exc c fs h
  | .stuck => .stuck
def LR.then (o : LR) (f : List D → AH → ER) : ER := match o with
  | .ok d h => f d h
  | .exc c fs h => .exc c fs h
  | .stuck => .stuck
def eVar (i : Nat) : EM := fun env h => match env[i]? with
  | some (some d) => .ok d h
  | _ => .stuck
def eC (d : D) : EM := fun _ h => .ok d h
def eOp (g : D → D → AH → ER) (a b : EM) : EM := fun env h => (a env h).then fun d1 h1 => (b env h1).then fun d2 h2 => g d1 d2 h2
def eUn (g : D → AH → ER) (a : EM) : EM := fun env h => (a env h).then fun d1 h1 => g d1 h1
def eIf (c a b : EM) : EM := fun env h => (c env h).then fun d h1 => match d with
  | .bl true => a env h1
  | .bl false => b env h1
  | _ => .stuck
/-- and, or of bools -/
def eAnd (a b : EM) : EM := fun env h => (a env h).then fun d h1 => match d with
  | .bl true => b env h1
  | .bl false => .ok (.bl false) h1
  | _ => .stuck
def eOr (a b : EM) : EM := fun env h => (a env h).then fun d h1 => match d with
  | .bl true => .ok (.bl true) h1
  | .bl false => b env h1
  | _ => .stuck
def eNot (a : EM) : EM := fun env h => (a env h).then fun d h1 => match d with
  | .bl b => .ok (.bl (!b)) h1
  | _ => .stuck
def lNil : LM := fun _ h => .ok [] h
def lCons (a : EM) (r : LM) : LM := fun env h => match a env h with
  | .ok d h1 => (match r env h1 with
    | .ok ds h2 => .ok (d :: ds) h2
    | .exc c fs h2 => .exc c fs h2
    | .stuck => .stuck)
  | .exc c fs h1 => .exc c fs h1
  | .stuck => .stuck
def eCall (g : List D → AH → ER) (a : LM) : EM := fun env h => (a env h).then g

section
variable {C : Ct} {e a b c : Expr} {m ma mb mc : EM} {pos : Pos}
/-- the first of two -/
theorem SimE.then {t : TE} {ma : EM} (sa : SimE C t ma) {env : AE} {h : AH} {σ : List (Option V)} {H : Hp} {ι : Nat → Addr} {f : D → AH → ER} {Q Q' : VK} (R : Rel C.X.K ι h H) (V : RV C ι h.length H env σ)
    (p : PostE C ι h.length H σ ((ma env h).then f) Q)
    (k : ∀ d h' ι' H' v, Ext ι h.length H ι' h'.length H' → Rel C.X.K ι' h' H' → RV C ι' h'.length H' env σ → RD C.X.K ι' h'.length H' d v → PostE C ι' h'.length H' σ (f d h') Q → Q' v H') : t σ H Q' := by
  refine sa.run env h σ H ι Q' R V ?_
  cases hm : ma env h with
  | ok d h1 =>
    rw [hm] at p
    exact fun ι' H' v x R' r => k d h1 ι' H' v x R' (V.ext R x) r (PostE.shift p x)
  | exc c fs h1 => rw [hm] at p; exact p
  | stuck => rw [hm] at p; exact p
theorem SimT.then {t : TT} {ma : EM} (sa : SimT C t ma) {env : AE} {h : AH} {σ : List (Option V)} {H : Hp} {ι : Nat → Addr} {f : Bool → AH → ER} {Q : VK} {Q' : Bool → Hp → Prop} (R : Rel C.X.K ι h H) (V : RV C ι h.length H env σ)
    (p : PostE C ι h.length H σ ((ma env h).then fun d h1 => match d with | .bl b => f b h1 | _ => .stuck) Q)
    (k : ∀ b h' ι' H', Ext ι h.length H ι' h'.length H' → Rel C.X.K ι' h' H' → RV C ι' h'.length H' env σ → PostE C ι' h'.length H' σ (f b h') Q → Q' b H') : t σ H Q' := by
  refine sa.run env h σ H ι Q' R V ?_
  cases hm : ma env h with
  | ok d h1 =>
    rw [hm] at p
    cases d with
    | bl b => exact ⟨b, rfl, fun ι' H' x R' => k b h1 ι' H' x R' (V.ext R x) (PostE.shift p x)⟩
    | _ => exact (show False from p).elim
  | exc c fs h1 => rw [hm] at p; exact p
  | stuck => rw [hm] at p; exact p

/-! ### names, constants -/
theorem me_var (i : Nat) {x : Str} (hN : C.X.N[i]? = some x := by rfl) (hv : Vis C.X.env.scope x := by first | exact Or.inl rfl | exact Or.inr (Or.inl rfl) | exact Or.inr (Or.inr rfl)) (hd : (x == ("__debug__" : Str)) = false := by decide)
    (hcd : (x == ("__classdict__" : Str)) = false := by decide) : ME C (.Name x pos) (eVar i) := by
  refine ⟨_, pe_var hN hv hd hcd, ⟨fun env h σ H ι Q R V p => ?_⟩⟩
  unfold eVar at p
  split at p
  · rename_i d e
    obtain ⟨v, e2, r⟩ := V.re.at_ i d e
    exact ⟨v, e2, p ι H v .refl R r⟩
  · exact p.elim
theorem me_C {v : V} {d : D} (hp : PE C.X e (tC v)) (hd : ∀ ι n H, RD C.X.K ι n H d v) : ME C e (eC d) :=
  ⟨_, hp, ⟨fun env h σ H ι Q R V p => p ι H v .refl R (hd _ _ _)⟩⟩

/-! ### operators, by values -/
/-- r asks no more of related values than g tells -/
def OpS (C : Ct) (r : R2) (g : D → D → AH → ER) : Prop := ∀ (ι : Nat → Addr) (h : AH) (H : Hp) (σ : List (Option V)) (x y : V) (d1 d2 : D) (Q : VK), Rel C.X.K ι h H → RD C.X.K ι h.length H d1 x → RD C.X.K ι h.length H d2 y → PostE C ι h.length H σ (g d1 d2 h) Q → r x y H Q
def UnS (C : Ct) (r : V → Hp → VK → Prop) (g : D → AH → ER) : Prop := ∀ (ι : Nat → Addr) (h : AH) (H : Hp) (σ : List (Option V)) (x : V) (d : D) (Q : VK), Rel C.X.K ι h H → RD C.X.K ι h.length H d x → PostE C ι h.length H σ (g d h) Q → r x H Q
def CallS (C : Ct) (r : List V → Hp → VK → Prop) (g : List D → AH → ER) : Prop := ∀ (ι : Nat → Addr) (h : AH) (H : Hp) (σ : List (Option V)) (xs : List V) (ds : List D) (Q : VK), Rel C.X.K ι h H → RDs C.X.K ι h.length H ds xs → PostE C ι h.length H σ (g ds h) Q → r xs H Q
def TruS (C : Ct) (g : D → AH → ER) : Prop := ∀ (ι : Nat → Addr) (h : AH) (H : Hp) (σ : List (Option V)) (x : V) (d : D) (Q : Bool → Hp → Prop), Rel C.X.K ι h H → RD C.X.K ι h.length H d x → PostT C ι h.length H σ (g d h) Q → ∃ k, TruV C.X.K x H k ∧ Q k H
theorem SimE.op {ta tb : TE} (sa : SimE C ta ma) (sb : SimE C tb mb) {r : R2} {g : D → D → AH → ER} (hs : OpS C r g) : SimE C (tOp r ta tb) (eOp g ma mb) := by
  refine ⟨fun env h σ H ι Q R V p => ?_⟩
  refine sa.then R V p fun d1 h1 ι1 H1 v1 x1 R1 V1 r1 p1 => ?_
  refine sb.then R1 V1 p1 fun d2 h2 ι2 H2 v2 x2 R2 V2 r2 p2 => ?_
  exact hs ι2 h2 H2 σ v1 v2 d1 d2 Q R2 (r1.mono (x2.grow R1)) r2 p2
theorem me_op {op : Operator} {r : R2} {g : D → D → AH → ER} (ho : OpR C.X (binaryOp op) r) (hs : OpS C r g) (ha : ME C a ma) (hb : ME C b mb) : ME C (.BinOp a op b pos) (eOp g ma mb) := by
  obtain ⟨ta, pa, sa⟩ := ha
  obtain ⟨tb, pb, sb⟩ := hb
  exact ⟨_, pe_op ho pa pb, sa.op sb hs⟩
theorem me_un {op : UnaryOp} {r : V → Hp → VK → Prop} {g : D → AH → ER} (ho : UnR C.X (unaryOp op) r) (hs : UnS C r g) (ha : ME C a ma) : ME C (.UnaryOp op a pos) (eUn g ma) := by
  obtain ⟨ta, pa, sa⟩ := ha
  refine ⟨_, pe_un ho pa, ⟨fun env h σ H ι Q R V p => ?_⟩⟩
  refine sa.then R V p fun d1 h1 ι1 H1 v1 x1 R1 V1 r1 p1 => ?_
  exact hs ι1 h1 H1 σ v1 d1 Q R1 r1 p1
theorem me_cmp {op : CmpOp} {r : R2} {g : D → D → AH → ER} (ho : OpR C.X (compareOp op) r) (hs : OpS C r g) (ha : ME C a ma) (hb : ME C b mb) (hm : behindInMarks op b = false) : ME C (.Compare a [op] [b] pos) (eOp g ma mb) := by
  obtain ⟨ta, pa, sa⟩ := ha
  obtain ⟨tb, pb, sb⟩ := hb
  exact ⟨_, pe_cmpR ho pa pb hm, sa.op sb hs⟩
theorem SimE.test {t : TE} (s : SimE C t m) : SimT C (tTest t) m := by
  refine ⟨fun env h σ H ι Q R V p => ?_⟩
  refine s.run env h σ H ι _ R V ?_
  cases hm : m env h with
  | ok d h1 =>
    rw [hm] at p
    obtain ⟨b, rfl, p⟩ := p
    exact fun ι' H' v x R' r => ⟨b, RD.bl.mp r, p ι' H' x R'⟩
  | exc c fs h1 => rw [hm] at p; exact p
  | stuck => rw [hm] at p; exact p
theorem mt_cmp {op : CmpOp} {r : R2} {g : D → D → AH → ER} (ho : OpR C.X (compareOp op) r) (hs : OpS C r g) (ha : ME C a ma) (hb : ME C b mb) (hm : behindInMarks op b = false) : MT C (.Compare a [op] [b] pos) (eOp g ma mb) := by
  obtain ⟨ta, pa, sa⟩ := ha
  obtain ⟨tb, pb, sb⟩ := hb
  exact ⟨_, pt_cmpR ho pa pb hm, (sa.op sb hs).test⟩
/-- a op b op' c -/
def eChain (g g' : D → D → AH → ER) (a b c : EM) : EM := fun env h => (a env h).then fun d1 h1 => (b env h1).then fun d2 h2 => (g d1 d2 h2).then fun z h3 => match z with
  | .bl true => (c env h3).then fun d3 h4 => g' d2 d3 h4
  | .bl false => .ok (.bl false) h3
  | _ => .stuck
/-- r, then f -/
theorem OpS.then {r : R2} {g : D → D → AH → ER} (hs : OpS C r g) {ι : Nat → Addr} {h : AH} {H : Hp} {σ : List (Option V)} {x y : V} {d1 d2 : D} {f : D → AH → ER} {Q Q' : VK} {env : AE} (R : Rel C.X.K ι h H) (V : RV C ι h.length H env σ) (r1 : RD C.X.K ι h.length H d1 x) (r2 : RD C.X.K ι h.length H d2 y)
    (p : PostE C ι h.length H σ ((g d1 d2 h).then f) Q)
    (k : ∀ d h' ι' H' v, Ext ι h.length H ι' h'.length H' → Rel C.X.K ι' h' H' → RV C ι' h'.length H' env σ → RD C.X.K ι' h'.length H' d v → PostE C ι' h'.length H' σ (f d h') Q → Q' v H') : r x y H Q' := by
  refine hs ι h H σ x y d1 d2 Q' R r1 r2 ?_
  cases hm : g d1 d2 h with
  | ok d h1 =>
    rw [hm] at p
    exact fun ι' H' v x R' r => k d h1 ι' H' v x R' (V.ext R x) r (PostE.shift p x)
  | exc c fs h1 => rw [hm] at p; exact p
  | stuck => rw [hm] at p; exact p
theorem SimE.chain {ta tb tc : TE} (sa : SimE C ta ma) (sb : SimE C tb mb) (sc : SimE C tc mc) {r r' : R2} {g g' : D → D → AH → ER} (hs : OpS C r g) (hs' : OpS C r' g') : SimE C (tChain r r' ta tb tc) (eChain g g' ma mb mc) := by
  refine ⟨fun env h σ H ι Q R V p => ?_⟩
  refine sa.then R V p fun d1 h1 ι1 H1 v1 x1 R1 V1 r1 p1 => ?_
  refine sb.then R1 V1 p1 fun d2 h2 ι2 H2 v2 x2 R2 V2 r2 p2 => ?_
  refine hs.then R2 V2 (r1.mono (x2.grow R1)) r2 p2 fun d3 h3 ι3 H3 v3 x3 R3 V3 r3 p3 => ?_
  cases d3 with
  | bl k =>
    refine ⟨k, RD.bl.mp r3, ?_⟩
    cases k with
    | true =>
      refine iteT ?_
      refine sc.then R3 V3 p3 fun d4 h4 ι4 H4 v4 x4 R4 V4 r4 p4 => ?_
      exact hs' ι4 h4 H4 σ v2 v4 d2 d4 Q R4 (r2.mono ((x3.trans x4).grow R2)) r4 p4
    | false => exact iteF (p3 ι3 H3 _ .refl R3 (RD.bl.mpr rfl))
  | _ => exact (show False from p3).elim
theorem me_chain {op op' : CmpOp} {r r' : R2} {g g' : D → D → AH → ER} (ho : OpR C.X (compareOp op) r) (hs : OpS C r g) (ho' : OpR C.X (compareOp op') r') (hs' : OpS C r' g') (ha : ME C a ma) (hb : ME C b mb) (hc : ME C c mc)
    (hm : lastMarks [op, op'] [b, c] = false := by with_unfolding_all rfl) : ME C (.Compare a [op, op'] [b, c] pos) (eChain g g' ma mb mc) := by
  obtain ⟨ta, pa, sa⟩ := ha
  obtain ⟨tb, pb, sb⟩ := hb
  obtain ⟨tc, pc, sc⟩ := hc
  exact ⟨_, pe_chain ho ho' pa pb pc hm, sa.chain sb sc hs hs'⟩
theorem mt_chain {op op' : CmpOp} {r r' : R2} {g g' : D → D → AH → ER} (ho : OpR C.X (compareOp op) r) (hs : OpS C r g) (ho' : OpR C.X (compareOp op') r') (hs' : OpS C r' g') (ha : ME C a ma) (hb : ME C b mb) (hc : ME C c mc)
    (hm : lastMarks [op, op'] [b, c] = false := by with_unfolding_all rfl) : MT C (.Compare a [op, op'] [b, c] pos) (eChain g g' ma mb mc) := by
  obtain ⟨ta, pa, sa⟩ := ha
  obtain ⟨tb, pb, sb⟩ := hb
  obtain ⟨tc, pc, sc⟩ := hc
  exact ⟨_, pt_chain ho ho' pa pb pc hm, (sa.chain sb sc hs hs').test⟩

/-! ### tests -/
theorem mt_truth {g : D → AH → ER} (hs : TruS C g) (ha : ME C a ma) (he : ∀ whole, isTrue a C.X.env whole = (do let v ← whole; standAt a.pos; holding [v] (truthy v)) := by intro _; rfl) : MT C a (eUn g ma) := by
  obtain ⟨ta, pa, sa⟩ := ha
  refine ⟨_, pt_truth pa he, ⟨fun env h σ H ι Q R V p => ?_⟩⟩
  refine sa.run env h σ H ι _ R V ?_
  unfold eUn at p
  cases hm : ma env h with
  | ok d h1 =>
    rw [hm] at p
    refine fun ι' H' v x R' r => hs ι' h1 H' σ v d Q R' r (PostT.shift p x)
  | exc c fs h1 => rw [hm] at p; exact p
  | stuck => rw [hm] at p; exact p
theorem mt_not (ha : MT C a ma) : MT C (.UnaryOp .Not a pos) (eNot ma) := by
  obtain ⟨ta, pa, sa⟩ := ha
  refine ⟨_, pt_not pa, ⟨fun env h σ H ι Q R V p => ?_⟩⟩
  refine sa.run env h σ H ι _ R V ?_
  unfold eNot at p
  cases hm : ma env h with
  | ok d h1 =>
    rw [hm] at p
    cases d with
    | bl b =>
      obtain ⟨b', e, p⟩ := p
      cases e
      exact ⟨b, rfl, p⟩
    | _ => exact (show False from p).elim
  | exc c fs h1 => rw [hm] at p; exact p
  | stuck => rw [hm] at p; exact p
theorem mw_and1 (ha : MT C a ma) : MW C (.BoolOp .And [a] pos) ma := by
  obtain ⟨ta, pa, sa⟩ := ha
  exact ⟨_, pw_and1 pa, sa⟩
theorem mw_or1 (ha : MT C a ma) : MW C (.BoolOp .Or [a] pos) ma := by
  obtain ⟨ta, pa, sa⟩ := ha
  exact ⟨_, pw_or1 pa, sa⟩
theorem SimT.and {ta tb : TT} (sa : SimT C ta ma) (sb : SimT C tb mb) : SimT C (tAnd ta tb) (eAnd ma mb) := by
  refine ⟨fun env h σ H ι Q R V p => ?_⟩
  refine sa.run env h σ H ι _ R V ?_
  unfold eAnd at p
  cases hm : ma env h with
  | ok d h1 =>
    rw [hm] at p
    cases d with
    | bl b =>
      refine ⟨b, rfl, fun ι' H' x R' => ?_⟩
      cases b with
      | true => exact iteT (sb.run env h1 σ H' ι' Q R' (V.ext R x) (PostT.shift p x))
      | false =>
        obtain ⟨b', e, p⟩ := p
        cases e
        exact iteF (p ι' H' x R')
    | _ => exact (show False from p).elim
  | exc c fs h1 => rw [hm] at p; exact p
  | stuck => rw [hm] at p; exact p
theorem SimT.or {ta tb : TT} (sa : SimT C ta ma) (sb : SimT C tb mb) : SimT C (tOr ta tb) (eOr ma mb) := by
  refine ⟨fun env h σ H ι Q R V p => ?_⟩
  refine sa.run env h σ H ι _ R V ?_
  unfold eOr at p
  cases hm : ma env h with
  | ok d h1 =>
    rw [hm] at p
    cases d with
    | bl b =>
      refine ⟨b, rfl, fun ι' H' x R' => ?_⟩
      cases b with
      | false => exact iteF (sb.run env h1 σ H' ι' Q R' (V.ext R x) (PostT.shift p x))
      | true =>
        obtain ⟨b', e, p⟩ := p
        cases e
        exact iteT (p ι' H' x R')
    | _ => exact (show False from p).elim
  | exc c fs h1 => rw [hm] at p; exact p
  | stuck => rw [hm] at p; exact p
theorem mw_and {rest : List Expr} (ha : MT C a ma) (hb : MW C (.BoolOp .And (b :: rest) pos) mb) : MW C (.BoolOp .And (a :: b :: rest) pos) (eAnd ma mb) := by
  obtain ⟨ta, pa, sa⟩ := ha
  obtain ⟨tb, pb, sb⟩ := hb
  exact ⟨_, pw_and pa pb, sa.and sb⟩
theorem mw_or {rest : List Expr} (ha : MT C a ma) (hb : MW C (.BoolOp .Or (b :: rest) pos) mb) : MW C (.BoolOp .Or (a :: b :: rest) pos) (eOr ma mb) := by
  obtain ⟨ta, pa, sa⟩ := ha
  obtain ⟨tb, pb, sb⟩ := hb
  exact ⟨_, pw_or pa pb, sa.or sb⟩
theorem MW.mt (h : MW C a ma) : MT C a ma := by
  obtain ⟨t, p, s⟩ := h
  exact ⟨t, p.pt, s⟩
/-- .. as values (bools, but the last) -/
theorem me_one {op} (h : ME C a ma) : ME C (.BoolOp op [a] pos) ma := by
  obtain ⟨t, p, s⟩ := h
  exact ⟨t, pe_one p, s⟩
theorem me_and {rest : List Expr} (ha : ME C a ma) (hb : ME C (.BoolOp .And (b :: rest) pos) mb) : ME C (.BoolOp .And (a :: b :: rest) pos) (eAnd ma mb) := by
  obtain ⟨ta, pa, sa⟩ := ha
  obtain ⟨tb, pb, sb⟩ := hb
  refine ⟨_, pe_and pa pb, ⟨fun env h σ H ι Q R V p => ?_⟩⟩
  refine sa.then R V p fun d1 h1 ι1 H1 v1 x1 R1 V1 r1 p1 => ?_
  cases d1 with
  | bl k =>
    refine ⟨k, RD.bl.mp r1, ?_⟩
    cases k with
    | true => exact iteT (sb.run env h1 σ H1 ι1 Q R1 V1 p1)
    | false => exact iteF (p1 ι1 H1 _ .refl R1 (RD.bl.mpr rfl))
  | _ => exact (show False from p1).elim
theorem me_or {rest : List Expr} (ha : ME C a ma) (hb : ME C (.BoolOp .Or (b :: rest) pos) mb) : ME C (.BoolOp .Or (a :: b :: rest) pos) (eOr ma mb) := by
  obtain ⟨ta, pa, sa⟩ := ha
  obtain ⟨tb, pb, sb⟩ := hb
  refine ⟨_, pe_or pa pb, ⟨fun env h σ H ι Q R V p => ?_⟩⟩
  refine sa.then R V p fun d1 h1 ι1 H1 v1 x1 R1 V1 r1 p1 => ?_
  cases d1 with
  | bl k =>
    refine ⟨k, RD.bl.mp r1, ?_⟩
    cases k with
    | false => exact iteF (sb.run env h1 σ H1 ι1 Q R1 V1 p1)
    | true => exact iteT (p1 ι1 H1 _ .refl R1 (RD.bl.mpr rfl))
  | _ => exact (show False from p1).elim
theorem me_not (ha : ME C a ma) : ME C (.UnaryOp .Not a pos) (eNot ma) := by
  obtain ⟨ta, pa, sa⟩ := ha
  refine ⟨_, pe_not pa, ⟨fun env h σ H ι Q R V p => ?_⟩⟩
  refine sa.then R V p fun d1 h1 ι1 H1 v1 x1 R1 V1 r1 p1 => ?_
  cases d1 with
  | bl k => exact ⟨k, RD.bl.mp r1, p1 ι1 H1 _ .refl R1 (RD.bl.mpr rfl)⟩
  | _ => exact (show False from p1).elim
/-- a if c else b -/
theorem me_if (hc : MT C c mc) (ha : ME C a ma) (hb : ME C b mb) : ME C (.IfExp c a b pos) (eIf mc ma mb) := by
  obtain ⟨tc, pc, sc⟩ := hc
  obtain ⟨ta, pa, sa⟩ := ha
  obtain ⟨tb, pb, sb⟩ := hb
  refine ⟨_, pe_ifExp pc pa pb, ⟨fun env h σ H ι Q R V p => ?_⟩⟩
  refine sc.run env h σ H ι _ R V ?_
  unfold eIf at p
  cases hm : mc env h with
  | ok d h1 =>
    rw [hm] at p
    cases d with
    | bl k =>
      refine ⟨k, rfl, fun ι' H' x R' => ?_⟩
      cases k with
      | true => exact iteT (sa.run env h1 σ H' ι' Q R' (V.ext R x) (PostE.shift p x))
      | false => exact iteF (sb.run env h1 σ H' ι' Q R' (V.ext R x) (PostE.shift p x))
    | _ => exact (show False from p).elim
  | exc c fs h1 => rw [hm] at p; exact p
  | stuck => rw [hm] at p; exact p

/-! ### argument lists, calls of built-ins -/
theorem ma_nil : MA C [] lNil := ⟨_, pa_nil, ⟨fun env h σ H ι Q R V p => p ι H [] .refl R RDs.nil'⟩⟩
theorem ma_cons {es : List Expr} {mr : LM} (ha : ME C e m) (hr : MA C es mr) (hs : starEach (e :: es) C.X.env = (false, eval e C.X.env) :: starEach es C.X.env := by rfl) : MA C (e :: es) (lCons m mr) := by
  obtain ⟨ta, pa, sa⟩ := ha
  obtain ⟨tr, pr, sr⟩ := hr
  refine ⟨_, pa_cons pa pr hs, ⟨fun env h σ H ι Q R V p => ?_⟩⟩
  refine sa.run env h σ H ι _ R V ?_
  unfold lCons at p
  cases hm : m env h with
  | ok d h1 =>
    rw [hm] at p
    dsimp only at p
    refine fun ι' H' v x R' r => ?_
    refine sr.run env h1 σ H' ι' _ R' (V.ext R x) ?_
    cases hm2 : mr env h1 with
    | ok ds h2 =>
      rw [hm2] at p
      exact fun ι2 H2 vs x2 R2 r2 => p ι2 H2 _ (x.trans x2) R2 (RDs.cons' (r.mono (x2.grow R')) r2)
    | exc c fs h2 =>
      rw [hm2] at p
      exact fun ι2 H2 Cl dd x2 => p ι2 H2 Cl dd (x.trans x2)
    | stuck => rw [hm2] at p; exact p
  | exc c fs h1 => rw [hm] at p; exact p
  | stuck => rw [hm] at p; exact p
theorem SimL.call {t : TA} {ml : LM} (s : SimL C t ml) {r : List V → Hp → VK → Prop} {g : List D → AH → ER} (hs : CallS C r g) : SimE C (fun σ H Q => t σ H fun vs H1 => r vs H1 Q) (eCall g ml) := by
  refine ⟨fun env h σ H ι Q R V p => ?_⟩
  refine s.run env h σ H ι _ R V ?_
  unfold eCall at p
  cases hm : ml env h with
  | ok ds h1 =>
    rw [hm] at p
    exact fun ι' H' vs x R' r' => hs ι' h1 H' σ vs ds Q R' r' (PostE.shift p x)
  | exc c fs h1 => rw [hm] at p; exact p
  | stuck => rw [hm] at p; exact p
theorem me_callB {x : Str} {p : Pos} {es : List Expr} {id : String} {r : List V → Hp → VK → Prop} {g : List D → AH → ER} {ml : LM} (hc : CallR C.X (.builtin id) r) (hs : CallS C r g) (hm : C.X.mg x = none) (ha : MA C (e :: es) ml) (hv : bootBuiltins x = some (.builtin id) := by decide +kernel) (hg : Gl C.X x := by rfl) (hn : x ≠ "__name__" := by decide) (hdb : (x == ("__debug__" : Str)) = false := by decide)
    (he : starEach (e :: es) C.X.env = (false, eval e C.X.env) :: starEach es C.X.env := by rfl) (hpl : (backTo pos (starEach es C.X.env)).any (·.1) = false := by rfl) : ME C (.Call (.Name x p) (e :: es) [] pos) (eCall g ml) := by
  obtain ⟨t, pa, s⟩ := ha
  exact ⟨_, pe_callB hc hg hm hv pa hn hdb he hpl, s.call hs⟩
theorem me_callTy {x : Str} {p : Pos} {es : List Expr} {T : String} {r : List V → Hp → VK → Prop} {g : List D → AH → ER} {ml : LM} (hc : CallR C.X (.type T) r) (hs : CallS C r g) (hm : C.X.mg x = none) (ha : MA C (e :: es) ml) (hv : bootBuiltins x = some (.type T) := by decide +kernel) (hg : Gl C.X x := by rfl) (hn : x ≠ "__name__" := by decide) (hdb : (x == ("__debug__" : Str)) = false := by decide)
    (he : starEach (e :: es) C.X.env = (false, eval e C.X.env) :: starEach es C.X.env := by rfl) (hpl : (backTo pos (starEach es C.X.env)).any (·.1) = false := by rfl) : ME C (.Call (.Name x p) (e :: es) [] pos) (eCall g ml) := by
  obtain ⟨t, pa, s⟩ := ha
  exact ⟨_, pe_callTy hc hg hm hv pa hn hdb he hpl, s.call hs⟩
end
end Rf

set_option maxHeartbeats 1000000
namespace Rf
open PySem PySem.Spec PyProof.Rows L2

/-! ### statements -/
def SR.then (o : SR) (f : SM) : SR := match o with
  | .nx e h => f e h
  | r => r
/-- an expression, then a statement's piece -/
def ER.thenS (o : ER) (env : AE) (f : D → AH → SR) : SR := match o with
  | .ok d h => f d h
  | .exc c fs h => .exc c fs env h
  | .stuck => .stuck
def sPass : SM := fun e h => .nx e h
def sSeq (a b : SM) : SM := fun e h => (a e h).then b
def sRet (m : EM) : SM := fun e h => (m e h).thenS e fun d h1 => .rt d h1
def sRetN : SM := fun _ h => .rt .non h
def sExpr (m : EM) : SM := fun e h => (m e h).thenS e fun _ h1 => .nx e h1
def sIf (c : EM) (a b : SM) : SM := fun e h => (c e h).thenS e fun d h1 => match d with
  | .bl true => a e h1
  | .bl false => b e h1
  | _ => .stuck
def sBreak : SM := fun e h => .bk e h
def sCont : SM := fun e h => .ct e h
def sStuck : SM := fun _ _ => .stuck
/-- a target takes a value -/
abbrev GM := D → AE → AH → SR
def gVar (i : Nat) : GM := fun d e h => .nx (e.set i (some d)) h
def sAsg (m : EM) (g : GM) : SM := fun e h => (m e h).thenS e fun d h1 => g d e h1
def sSet (i : Nat) (m : EM) : SM := sAsg m (gVar i)

section
variable {C : Ct} {e a b c : Expr} {s : Stmt} {st st' : List Stmt} {m ma mb mc : EM} {q q' : SM} {pos : Pos}
theorem SimE.thenS {t : TE} {ma : EM} (sa : SimE C t ma) {env : AE} {h : AH} {σ : List (Option V)} {H : Hp} {ι : Nat → Addr} {f : D → AH → SR} {D : Ends} {Q' : VK} (R : Rel C.X.K ι h H) (V : RV C ι h.length H env σ)
    (p : PostS C ι h.length H ((ma env h).thenS env f) D)
    (k : ∀ d h' ι' H' v, Ext ι h.length H ι' h'.length H' → Rel C.X.K ι' h' H' → RV C ι' h'.length H' env σ → RD C.X.K ι' h'.length H' d v → PostS C ι' h'.length H' (f d h') D → Q' v H') : t σ H Q' := by
  refine sa.run env h σ H ι Q' R V ?_
  cases hm : ma env h with
  | ok d h1 =>
    rw [hm] at p
    exact fun ι' H' v x R' r => k d h1 ι' H' v x R' (V.ext R x) r (PostS.shift p x)
  | exc c fs h1 => rw [hm] at p; exact fun ι' H' Cl dd x R' mc xd => p ι' H' σ Cl dd x R' (V.ext R x) mc xd
  | stuck => rw [hm] at p; exact p
theorem mb_nil : MB C [] sPass := ⟨_, pss_nil, ⟨fun env h σ H ι D R V p => p ι H σ .refl R V⟩⟩
theorem SimS.seq {t u : TS} (s1 : SimS C t q) (s2 : SimS C u q') : SimS C (tSeq t u) (sSeq q q') := by
  refine ⟨fun env h σ H ι D R V p => ?_⟩
  refine s1.run env h σ H ι _ R V ?_
  unfold sSeq at p
  cases hm : q env h with
  | nx e h1 =>
    rw [hm] at p
    exact fun ι' H' σ' x R' V' => s2.run e h1 σ' H' ι' D R' V' (PostS.shift p x)
  | rt d h1 => rw [hm] at p; exact p
  | bk d h1 => rw [hm] at p; exact p
  | ct d h1 => rw [hm] at p; exact p
  | exc c fs e h1 => rw [hm] at p; exact p
  | stuck => rw [hm] at p; exact p
theorem mb_cons (h1 : MS C s q) (h2 : MB C st q') : MB C (s :: st) (sSeq q q') := by
  obtain ⟨t, p, s1⟩ := h1
  obtain ⟨u, p', s2⟩ := h2
  exact ⟨_, pss_cons p p', s1.seq s2⟩
theorem mb_one (h1 : MS C s q) : MB C [s] q := by
  obtain ⟨t, p, s1⟩ := h1
  exact ⟨_, pss_one p, s1⟩
theorem ms_pass : MS C (.Pass pos) sPass := ⟨_, ps_pass, ⟨fun env h σ H ι D R V p => p ι H σ .refl R V⟩⟩
theorem ms_break : MS C (.Break pos) sBreak := ⟨_, ps_break, ⟨fun env h σ H ι D R V p => p ι H σ .refl R V⟩⟩
theorem ms_continue : MS C (.Continue pos) sCont := ⟨_, ps_continue, ⟨fun env h σ H ι D R V p => p ι H σ .refl R V⟩⟩
theorem ms_never : MS C s sStuck := ⟨_, ps_never, ⟨fun env h σ H ι D R V p => p⟩⟩
theorem ms_doc {x : Str} {j : Nat} {pos' : Pos} : MS C (.Expr (.Constant (.str x) j pos) pos') sPass := ⟨_, ps_doc, ⟨fun env h σ H ι D R V p => p ι H σ .refl R V⟩⟩
theorem ms_expr (ha : ME C e m) (hs : swapsWith e none pos.line C.X.env = pure false := by rfl) : MS C (.Expr e pos) (sExpr m) := by
  obtain ⟨t, p, s1⟩ := ha
  refine ⟨_, ps_expr p hs, ⟨fun env h σ H ι D R V p => ?_⟩⟩
  exact s1.thenS R V p fun d h1 ι1 H1 v1 x1 R1 V1 r1 p1 => p1 ι1 H1 σ .refl R1 V1
theorem ms_ret (ha : ME C e m) : MS C (.Return (some e) pos) (sRet m) := by
  obtain ⟨t, p, s1⟩ := ha
  refine ⟨_, ps_ret p, ⟨fun env h σ H ι D R V p => ?_⟩⟩
  exact s1.thenS R V p fun d h1 ι1 H1 v1 x1 R1 V1 r1 p1 => p1 ι1 H1 v1 .refl R1 r1
theorem ms_retN : MS C (.Return none pos) sRetN := ⟨_, ps_retN, ⟨fun env h σ H ι D R V p => p ι H .non .refl R (RD.non.mpr rfl)⟩⟩
theorem ms_if (hc : MT C c mc) (ha : MB C st q) (hb : MB C st' q') : MS C (.If c st st' pos) (sIf mc q q') := by
  obtain ⟨tc, pc, sc⟩ := hc
  obtain ⟨ta, pa, sa⟩ := ha
  obtain ⟨tb, pb, sb⟩ := hb
  refine ⟨_, ps_if pc pa pb, ⟨fun env h σ H ι D R V p => ?_⟩⟩
  refine sc.run env h σ H ι _ R V ?_
  unfold sIf at p
  cases hm : mc env h with
  | ok d h1 =>
    rw [hm] at p
    cases d with
    | bl k =>
      refine ⟨k, rfl, fun ι' H' x R' => ?_⟩
      cases k with
      | true => exact iteT (sa.run env h1 σ H' ι' D R' (V.ext R x) (PostS.shift p x))
      | false => exact iteF (sb.run env h1 σ H' ι' D R' (V.ext R x) (PostS.shift p x))
    | _ => exact (show False from p).elim
  | exc c fs h1 => rw [hm] at p; exact fun ι' H' Cl dd x R' mc xd => p ι' H' σ Cl dd x R' (V.ext R x) mc xd
  | stuck => rw [hm] at p; exact p
theorem ms_set {i : Nat} {x : Str} {pos' : Pos} (hN : C.X.N.Nodup) (hi : C.X.N[i]? = some x) (hx : Loc C.X.env.scope x) (ha : ME C e m) (hne : ∀ y, C.ea = some y → y.i ≠ i := by exact fun _ z => nomatch z)
    (hs : swapsWith e (some (.Name x pos')) pos.line C.X.env = pure false := by rfl) (hf : C.X.fn x = true ∨ C.X.env.scope.names.lookup x = some .local := by first | exact .inl rfl | exact .inr rfl | assumption) : MS C (.Assign [.Name x pos'] e pos) (sSet i m) := by
  obtain ⟨t, p, s1⟩ := ha
  refine ⟨_, ps_set hN hi hx p hs hf, ⟨fun env h σ H ι D R V p => ?_⟩⟩
  exact s1.thenS R V p fun d h1 ι1 H1 v1 x1 R1 V1 r1 p1 => p1 ι1 H1 _ .refl R1 (V1.set i r1 hne)

/-! ### targets -/
structure SimG (C : Ct) (t : TG) (g : GM) : Prop where
  run : ∀ (d : D) (v : V) (env : AE) (h : AH) (σ : List (Option V)) (H : Hp) (ι : Nat → Addr) (Q : List (Option V) → Hp → Prop), Rel C.X.K ι h H → RV C ι h.length H env σ → RD C.X.K ι h.length H d v →
    PostS C ι h.length H (g d env h) { nx := Q, rt := fun _ _ => False } → t v σ H Q
def MG (C : Ct) (tg : Expr) (g : GM) : Prop := ∃ t, PG C.X tg t ∧ SimG C t g
structure SimGs (C : Ct) (t : TGs) (g : List D → AE → AH → SR) : Prop where
  run : ∀ (ds : List D) (vs : List V) (env : AE) (h : AH) (σ : List (Option V)) (H : Hp) (ι : Nat → Addr) (Q : List (Option V) → Hp → Prop), Rel C.X.K ι h H → RV C ι h.length H env σ → RDs C.X.K ι h.length H ds vs →
    PostS C ι h.length H (g ds env h) { nx := Q, rt := fun _ _ => False } → t vs σ H Q
def MGs (C : Ct) (tg : List Expr) (g : List D → AE → AH → SR) : Prop := ∃ t, PGs C.X tg t ∧ SimGs C t g
/-- a target lets no exception out, ends in next -/
def onlyNx (o : SR) : SR := match o with
  | .nx e h => .nx e h
  | _ => .stuck
def gNils : List D → AE → AH → SR := fun ds e h => match ds with
  | [] => .nx e h
  | _ => .stuck
def gCons (g : GM) (r : List D → AE → AH → SR) : List D → AE → AH → SR := fun ds e h => match ds with
  | d :: ds => (onlyNx (g d e h)).then fun e1 h1 => r ds e1 h1
  | _ => .stuck
def gTup (k : Nat) (r : List D → AE → AH → SR) : GM := fun d e h => match d with
  | .tup ds => if ds.length = k then r ds e h else .stuck
  | _ => .stuck
theorem mg_var {i : Nat} {x : Str} (hN : C.X.N.Nodup) (hi : C.X.N[i]? = some x) (hx : Loc C.X.env.scope x) (hne : ∀ y, C.ea = some y → y.i ≠ i := by exact fun _ z => nomatch z) (hf : C.X.fn x = true ∨ C.X.env.scope.names.lookup x = some .local := by first | exact .inl rfl | exact .inr rfl | assumption) : MG C (.Name x pos) (gVar i) :=
  ⟨_, pg_name hN hi hx hf, ⟨fun d v env h σ H ι Q R V r p => p ι H _ .refl R (V.set i r hne)⟩⟩
theorem mgs_nil : MGs C [] gNils := by
  refine ⟨_, pgs_nil, ⟨fun ds vs env h σ H ι Q R V r p => ?_⟩⟩
  cases ds with
  | nil => exact ⟨RDs.nil.mp r, p ι H σ .refl R V⟩
  | cons _ _ => exact (show False from p).elim
theorem PostS.only {ι : Nat → Addr} {n : Nat} {H : Hp} {o : SR} {D D' : Ends} (p : PostS C ι n H (onlyNx o) D) (eD : D.nx = D'.nx) : PostS C ι n H o D' := by
  cases o with
  | nx e h => exact fun ι' H' σ' x R V => by rw [← eD]; exact p ι' H' σ' x R V
  | _ => exact (show False from p).elim
theorem SR.then_only {o : SR} {f : SM} {ι : Nat → Addr} {n : Nat} {H : Hp} {D : Ends} (p : PostS C ι n H ((onlyNx o).then f) D) : ∃ e h, o = .nx e h ∧ PostS C ι n H (f e h) D := by
  cases o with
  | nx e h => exact ⟨e, h, rfl, p⟩
  | _ => exact (show False from p).elim
theorem mgs_cons {es : List Expr} {g : GM} {r : List D → AE → AH → SR} (h1 : MG C e g) (h2 : MGs C es r) (hs : (assignEach (e :: es) C.X.env).map (·.2) = assign e C.X.env :: (assignEach es C.X.env).map (·.2) := by rfl) : MGs C (e :: es) (gCons g r) := by
  obtain ⟨t, p, s1⟩ := h1
  obtain ⟨u, p', s2⟩ := h2
  refine ⟨_, pgs_cons p p' hs, ⟨fun ds vs env h σ H ι Q R V rr pp => ?_⟩⟩
  cases ds with
  | nil => exact (show False from pp).elim
  | cons d ds =>
    obtain ⟨v, vr, rfl, r1, r2⟩ := RDs.cons.mp rr
    refine ⟨v, vr, rfl, ?_⟩
    obtain ⟨e1, h1, eg, pq⟩ := SR.then_only pp
    refine s1.run d v env h σ H ι _ R V r1 ?_
    rw [eg]
    exact fun ι' H' σ' x R' V' => s2.run ds vr e1 h1 σ' H' ι' Q R' V' (r2.mono (x.grow R)) (PostS.shift pq x)
theorem mg_tup {es : List Expr} {kk k : Nat} {r : List D → AE → AH → SR} (hc : C.X.calm = true) (h : MGs C es r) (hn : (assignEach es C.X.env).length = k := by rfl) (hst : (assignEach es C.X.env).findIdx? (·.1) = none := by rfl) : MG C (.Tuple es kk pos) (gTup k r) := by
  obtain ⟨t, p, s1⟩ := h
  refine ⟨_, pg_tup hc p hn hst, ⟨fun d v env h σ H ι Q R V rr pp => ?_⟩⟩
  cases d with
  | tup ds =>
    obtain ⟨a, vs, rfl, q, r2⟩ := RD.tup.mp rr
    unfold gTup at pp
    dsimp only at pp
    by_cases hk : ds.length = k
    · rw [if_pos hk] at pp
      exact ⟨a, vs, rfl, q, by rw [← r2.length]; exact hk, s1.run ds vs env h σ H ι Q R V r2 pp⟩
    · rw [if_neg hk] at pp; exact (show False from pp).elim
  | _ => exact (show False from pp).elim
/-- a store a[i] = v, by values -/
def SetS (C : Ct) (t : TSet) (g : D → D → D → AH → Option AH) : Prop := ∀ (ι : Nat → Addr) (h : AH) (H : Hp) (x y z : V) (d1 d2 d3 : D) (h' : AH) (Q : Hp → Prop), Rel C.X.K ι h H → RD C.X.K ι h.length H d1 x → RD C.X.K ι h.length H d2 y → RD C.X.K ι h.length H d3 z →
  g d1 d2 d3 h = some h' → (∀ ι' H', Ext ι h.length H ι' h'.length H' → Rel C.X.K ι' h' H' → Q H') → t x y z H Q
def gSub (g : D → D → D → AH → Option AH) (o i : EM) : GM := fun d env h => (o env h).thenS env fun d1 h1 => (i env h1).thenS env fun d2 h2 => match g d1 d2 d h2 with
  | some h3 => .nx env h3
  | none => .stuck
theorem mg_sub {o i : Expr} {mo mi : EM} {t : TSet} {g : D → D → D → AH → Option AH} (hs : PSet C.X t) (ss : SetS C t g) (ho : ME C o mo) (hi : ME C i mi)
    (ha : ∀ v, assign (.Subscript o i pos) C.X.env v = (do
      let ov ← holding [v] (eval o C.X.env)
      let iv ← holding [v, ov] (eval i C.X.env)
      standAt pos
      holding [v, ov, iv] (setItem ov iv v)
      release [v, ov, iv] []) := by intro _; rfl) : MG C (.Subscript o i pos) (gSub g mo mi) := by
  obtain ⟨ta, pa, sa⟩ := ho
  obtain ⟨tb, pb, sb⟩ := hi
  refine ⟨_, pg_sub pa pb hs ha, ⟨fun d v env h σ H ι Q R V r p => ?_⟩⟩
  refine sa.thenS R V p fun d1 h1 ι1 H1 v1 x1 R1 V1 r1 p1 => ?_
  refine sb.thenS R1 V1 p1 fun d2 h2 ι2 H2 v2 x2 R2 V2 r2 p2 => ?_
  cases hg : g d1 d2 d h2 with
  | none => rw [hg] at p2; exact (show False from p2).elim
  | some h3 =>
    rw [hg] at p2
    exact ss ι2 h2 H2 v1 v2 v d1 d2 d h3 _ R2 (r1.mono (x2.grow R1)) r2 (r.mono ((x1.trans x2).grow R)) hg fun ι3 H3 x3 R3 => p2 ι3 H3 σ x3 R3 (V2.ext R2 x3)
theorem ms_asg {tg : Expr} {g : GM} (ha : ME C e m) (hg : MG C tg g) (hs : swapsWithSole [tg] e pos.line C.X.env = pure false := by rfl) (hw : swappedStores [tg] e C.X.env = pure none := by rfl)
    (h1 : (assignEach [tg] C.X.env).map (·.2) = [assign tg C.X.env] := by rfl) : MS C (.Assign [tg] e pos) (sAsg m (fun d e h => onlyNx (g d e h))) := by
  obtain ⟨t, p, s1⟩ := ha
  obtain ⟨u, p', s2⟩ := hg
  refine ⟨_, ps_asg p p' hs hw h1, ⟨fun env h σ H ι D R V p => ?_⟩⟩
  exact s1.thenS R V p fun d h1 ι1 H1 v1 x1 R1 V1 r1 p1 => s2.run d v1 env h1 σ H1 ι1 _ R1 V1 r1 (PostS.only p1 rfl)
/-- a, b = x, y with local names -/
def sPar (i j : Nat) (l : LM) : SM := fun e h => match l e h with
  | .ok [d1, d2] h1 => .nx ((e.set i (some d1)).set j (some d2)) h1
  | .exc c fs h1 => .exc c fs e h1
  | _ => .stuck
theorem ms_par {i j : Nat} {x y : Str} {ml : LM} {px py pt : Pos} {kt k2 : Nat} {pt2 : Pos} (hc : C.X.calm = true) (hN : C.X.N.Nodup) (hi : C.X.N[i]? = some x) (hj : C.X.N[j]? = some y) (hij : i ≠ j)
    (hx : C.X.env.scope.names.lookup x = some .local) (hy : C.X.env.scope.names.lookup y = some .local) (ha : MA C [a, b] ml)
    (hw : swappedStores [.Tuple [.Name x px, .Name y py] kt pt] (.Tuple [a, b] k2 pt2) C.X.env = pure (some [x, y])) (hne : C.ea = none := by rfl)
    (hs : swapsWithSole [.Tuple [.Name x px, .Name y py] kt pt] (.Tuple [a, b] k2 pt2) pos.line C.X.env = pure false := by rfl) :
    MS C (.Assign [.Tuple [.Name x px, .Name y py] kt pt] (.Tuple [a, b] k2 pt2) pos) (sPar i j ml) := by
  obtain ⟨t, p, s1⟩ := ha
  refine ⟨_, ps_par hc hN hi hj hij hx hy p hw hs, ⟨fun env h σ H ι D R V p => ?_⟩⟩
  refine s1.run env h σ H ι _ R V ?_
  unfold sPar at p
  have nea : ∀ y, C.ea = some y → ∀ k, y.i ≠ k := fun y z => by rw [hne] at z; cases z
  cases hm : ml env h with
  | ok ds h1 =>
    rw [hm] at p
    match ds, p with
    | [d1, d2], p =>
      refine fun ι' H' vs x R' r => ?_
      obtain ⟨v1, r1, rfl, q1, q2⟩ := RDs.cons.mp r
      obtain ⟨v2, r2, rfl, q3, q4⟩ := RDs.cons.mp q2
      cases RDs.nil.mp q4
      exact ⟨v1, v2, rfl, p ι' H' _ x R' (((V.ext R x).set i q1 fun y z => nea y z i).set j q3 fun y z => nea y z j)⟩
    | [], p => exact (show False from p).elim
    | [_], p => exact (show False from p).elim
    | _ :: _ :: _ :: _, p => exact (show False from p).elim
  | exc c fs h1 => rw [hm] at p; exact fun ι' H' Cl dd x R' mc xd => p ι' H' σ Cl dd x R' (V.ext R x) mc xd
  | stuck => rw [hm] at p; exact p
/-- name op= e -/
def sAug (i : Nat) (g : D → D → AH → ER) (m : EM) : SM := fun e h => match e[i]? with
  | some (some d) => (m e h).thenS e fun d2 h1 => (g d d2 h1).thenS e fun d3 h2 => .nx (e.set i (some d3)) h2
  | _ => .stuck
theorem ms_aug {i : Nat} {x : Str} {op : Operator} {r : R2} {g : D → D → AH → ER} {pos' : Pos} (ho : OpR C.X (inplaceOp op) r) (hs : OpS C r g) (hN : C.X.N.Nodup) (hi : C.X.N[i]? = some x) (hx : Loc C.X.env.scope x) (ha : ME C e m)
    (hne : ∀ y, C.ea = some y → y.i ≠ i := by exact fun _ z => nomatch z) (hf : C.X.fn x = true ∨ C.X.env.scope.names.lookup x = some .local := by first | exact .inl rfl | exact .inr rfl | assumption) : MS C (.AugAssign (.Name x pos') op e pos) (sAug i g m) := by
  obtain ⟨t, p, s1⟩ := ha
  have hp : PIp C.X op r := fun pins s σ H x y v u Q I rx ry hh => ho pins s σ H x y v u Q I rx ry hh
  refine ⟨_, ps_aug hN hi hx p hp hf, ⟨fun env h σ H ι D R V p => ?_⟩⟩
  unfold sAug at p
  split at p
  · rename_i d0 e0
    obtain ⟨v0, e1, r0⟩ := V.re.at_ i d0 e0
    refine ⟨v0, e1, ?_⟩
    refine s1.thenS R V p fun d h1 ι1 H1 v1 x1 R1 V1 r1 p1 => ?_
    refine hs ι1 h1 H1 σ v0 v1 d0 d _ R1 (r0.mono (x1.grow R)) r1 ?_
    cases hm : g d0 d h1 with
    | ok d3 h2 =>
      rw [hm] at p1
      exact fun ι2 H2 v2 x2 R2 r2 => p1 ι2 H2 _ x2 R2 ((V1.ext R1 x2).set i r2 hne)
    | exc c fs h2 => rw [hm] at p1; exact fun ι' H' Cl dd x R' mc xd => p1 ι' H' σ Cl dd x R' (V1.ext R1 x) mc xd
    | stuck => rw [hm] at p1; exact p1
  · exact p.elim
end

/-! ### while -/
/-- behind a turn's body: once more, or out -/
def again (r : SR) (k : SM) : SR := match r with
  | .nx e h => k e h
  | .ct e h => k e h
  | .bk e h => .nx e h
  | .rt d h => .rt d h
  | .exc c fs e h => .exc c fs e h
  | .stuck => .stuck
def whileN (c : EM) (b : SM) : Nat → SM
  | 0 => fun _ _ => .stuck
  | k + 1 => fun e h => (c e h).thenS e fun d h1 => match d with
    | .bl true => again (b e h1) (whileN c b k)
    | .bl false => .nx e h1
    | _ => .stuck
open Classical in
noncomputable def sWhile (c : EM) (b : SM) : SM := fun e h => if hk : ∃ k, whileN c b k e h ≠ .stuck then whileN c b hk.choose e h else .stuck
section
variable {C : Ct} {c : Expr} {st : List Stmt} {mc : EM} {q : SM} {pos : Pos}
/-- a body of a loop: k is what the next turns do -/
theorem PostS.again {ι : Nat → Addr} {n : Nat} {H : Hp} {r : SR} {k : SM} {D : Ends} {N : List (Option V) → Hp → Prop} (p : PostS C ι n H (again r k) D)
    (hN : ∀ env h ι' H' σ, Ext ι n H ι' h.length H' → Rel C.X.K ι' h H' → RV C ι' h.length H' env σ → PostS C ι' h.length H' (k env h) D → N σ H') : PostS C ι n H r { D with nx := N, ct := N, bk := D.nx } := by
  cases r with
  | nx e h => exact fun ι' H' σ x R V => hN e h ι' H' σ x R V (PostS.shift p x)
  | ct e h => exact fun ι' H' σ x R V => hN e h ι' H' σ x R V (PostS.shift p x)
  | bk e h => exact p
  | rt e h => exact p
  | exc c fs e h => exact p
  | stuck => exact p
theorem ms_while (hp : PassesOwn (model C.X.prog C.X.w) C.X.A C.X.env C.X.xe) (hc : MT C c mc) (hb : MB C st q) : MS C (.While c st [] pos) (sWhile mc q) := by
  obtain ⟨tc, pc, sc⟩ := hc
  obtain ⟨tb, pb, sb⟩ := hb
  refine ⟨_, ps_while hp pc pb, ⟨fun env h σ H ι D R V p => ?_⟩⟩
  unfold sWhile at p
  split at p
  · rename_i hk
    generalize hk.choose = k at p
    refine ⟨fun k σ H => ∃ env h ι, Rel C.X.K ι h H ∧ RV C ι h.length H env σ ∧ PostS C ι h.length H (whileN mc q k env h) D, ⟨k, env, h, ι, R, V, p⟩, ?_⟩
    rintro k σ H ⟨env, h, ι, R, V, p⟩
    cases k with
    | zero => exact (show False from p).elim
    | succ k =>
      refine sc.run env h σ H ι _ R V ?_
      unfold whileN at p
      cases hm : mc env h with
      | ok d h1 =>
        rw [hm] at p
        cases d with
        | bl b =>
          refine ⟨b, rfl, fun ι' H' x R' => ?_⟩
          cases b with
          | true =>
            refine iteT ⟨fun σ H => ∃ env h ι, Rel C.X.K ι h H ∧ RV C ι h.length H env σ ∧ PostS C ι h.length H (whileN mc q k env h) D, fun σ' H' hq => ⟨k, Nat.lt_succ_self k, hq⟩, ?_⟩
            refine sb.run env h1 σ H' ι' _ R' (V.ext R x) ?_
            exact PostS.again (PostS.shift (o := again (q env h1) (whileN mc q k)) p x) fun e2 h2 ι2 H2 σ2 x2 R2 V2 p2 => ⟨e2, h2, ι2, R2, V2, p2⟩
          | false => exact iteF (p ι' H' σ x R' (V.ext R x))
        | _ => exact (show False from p).elim
      | exc c fs h1 => rw [hm] at p; exact fun ι' H' Cl dd x R' mc xd => p ι' H' σ Cl dd x R' (V.ext R x) mc xd
      | stuck => rw [hm] at p; exact p
  · exact p.elim
end
/-- once it ends within k turns, it ends so -/
theorem whileN_mono {c : EM} {b : SM} : ∀ {k j : Nat} {e : AE} {h : AH}, k ≤ j → whileN c b k e h ≠ .stuck → whileN c b j e h = whileN c b k e h
  | 0, j, e, h, _, hn => absurd rfl hn
  | k + 1, 0, e, h, hj, _ => absurd hj (Nat.not_succ_le_zero k)
  | k + 1, j + 1, e, h, hj, hn => by
    unfold whileN at hn ⊢
    cases hc : c e h with
    | ok d h1 =>
      rw [hc] at hn
      cases d with
      | bl v =>
        cases v with
        | true =>
          show again (b e h1) (whileN c b j) = again (b e h1) (whileN c b k)
          have hn : again (b e h1) (whileN c b k) ≠ .stuck := hn
          cases hb : b e h1 with
          | nx e2 h2 => rw [hb] at hn; exact whileN_mono (Nat.le_of_succ_le_succ hj) hn
          | ct e2 h2 => rw [hb] at hn; exact whileN_mono (Nat.le_of_succ_le_succ hj) hn
          | bk e2 h2 => rfl
          | rt e2 h2 => rfl
          | exc c2 f2 e2 h2 => rfl
          | stuck => rfl
        | false => rfl
      | _ => rfl
    | exc c2 fs h1 => rfl
    | stuck => rfl
theorem sWhile_eq {c : EM} {b : SM} {k : Nat} {e : AE} {h : AH} {r : SR} (hr : whileN c b k e h = r) (hn : r ≠ .stuck) : sWhile c b e h = r := by
  have hk : ∃ k, whileN c b k e h ≠ .stuck := ⟨k, by rw [hr]; exact hn⟩
  unfold sWhile
  rw [dif_pos hk]
  have h1 := hk.choose_spec
  rcases Nat.le_total k hk.choose with l | l
  · rw [whileN_mono l (by rw [hr]; exact hn)]; exact hr
  · rw [← whileN_mono l h1]; exact hr
end Rf

set_option maxHeartbeats 1000000
namespace Rf
open PySem PySem.Spec PyProof.Rows L2

/-! ### what is walked -/
/-- n: at most so many turns; nxt: at a turn, in a heap: the item, or none at the end -/
structure AIt where
  n : Nat
  nxt : Nat → AH → Option (Option D)
inductive IR where
  | ok (it : AIt) (h : AH)
  | exc (c : Str) (fs : List (Str × D)) (h : AH)
  | stuck
abbrev IM := AE → AH → IR
def forN (it : AIt) (g : GM) (b : SM) : Nat → Nat → SM
  | 0, _ => fun _ _ => .stuck
  | k + 1, i => fun e h => match it.nxt i h with
    | some none => .nx e h
    | some (some d) => again ((onlyNx (g d e h)).then b) (forN it g b k (i + 1))
    | none => .stuck
def sFor (mi : IM) (g : GM) (b : SM) : SM := fun e h => match mi e h with
  | .ok it h1 => forN it g b (it.n + 1) 0 e h1
  | .exc c fs h1 => .exc c fs e h1
  | .stuck => .stuck
/-- J does what it tells, from this heap on -/
def ItR (K : PySem.W.Frag) (J : It) (it : AIt) (ι : Nat → Addr) (n : Nat) (H : Hp) : Prop := ∀ i ι' h' H', Ext ι n H ι' h'.length H' → Rel K ι' h' H' →
  (it.nxt i h' = some none → J.stop i H') ∧
  ∀ d, it.nxt i h' = some (some d) → J.go i H' ∧ ∀ x H2, J.yld i H' x H2 → ∃ ι2, Ext ι' h'.length H' ι2 h'.length H2 ∧ Rel K ι2 h' H2 ∧ RD K ι2 h'.length H2 d x
def PostI (C : Ct) (ι : Nat → Addr) (n : Nat) (H : Hp) (σ : List (Option V)) (o : IR) (Q : It → Hp → Prop) : Prop := match o with
  | .ok it h' => ∀ ι' H' J, Ext ι n H ι' h'.length H' → Rel C.X.K ι' h' H' → ItR C.X.K J it ι' h'.length H' → Q J H'
  | .exc c fs h' => ∀ ι' H' Cl dd, Ext ι n H ι' h'.length H' → Rel C.X.K ι' h' H' → C.X.mg c = some (.ref Cl) → XD C.X.K ι' h'.length H' dd fs → C.W (.ref Cl) dd σ H'
  | .stuck => False
structure SimI (C : Ct) (t : TI) (m : IM) : Prop where
  run : ∀ (env : AE) (h : AH) (σ : List (Option V)) (H : Hp) (ι : Nat → Addr) (Q : It → Hp → Prop), Rel C.X.K ι h H → RV C ι h.length H env σ → PostI C ι h.length H σ (m env h) Q → t σ H Q
def MI (C : Ct) (tg e : Expr) (m : IM) : Prop := ∃ t, PI C.X tg e t ∧ SimI C t m

section
variable {C : Ct} {e tg iter : Expr} {st : List Stmt} {m : EM} {mi : IM} {g : GM} {q : SM} {pos : Pos}
theorem ms_for (hp : PassesOwn (model C.X.prog C.X.w) C.X.A C.X.env C.X.xe) (hc : C.X.calm = true) (hi : MI C tg iter mi) (hg : MG C tg g) (hb : MB C st q) (hs : ∀ x, foldedSetIterable iter C.X.env x = pure x := by intro _; rfl) :
    MS C (.For tg iter st [] pos) (sFor mi g q) := by
  obtain ⟨ti, pi, si⟩ := hi
  obtain ⟨tg', pg, sg⟩ := hg
  obtain ⟨tb, pb, sb⟩ := hb
  refine ⟨_, ps_for hp hc pi pg pb hs, ⟨fun env h σ H ι D R V p => ?_⟩⟩
  refine si.run env h σ H ι _ R V ?_
  unfold sFor at p
  cases hm : mi env h with
  | ok it h1 =>
    rw [hm] at p
    refine fun ι0 H0 J x0 R0 J0 => ?_
    refine ⟨fun i m σ H => ∃ env h ι, Ext ι0 h1.length H0 ι h.length H ∧ Rel C.X.K ι h H ∧ RV C ι h.length H env σ ∧ PostS C ι h.length H (forN it g q m i env h) D,
      ⟨it.n + 1, env, h1, ι0, .refl, R0, V.ext R x0, PostS.shift p x0⟩, ?_⟩
    rintro i m σ H ⟨env, h, ι, x, R, V, p⟩
    cases m with
    | zero => exact (show False from p).elim
    | succ m =>
      unfold forN at p
      obtain ⟨j1, j2⟩ := J0 i ι h H x R
      cases hn : it.nxt i h with
      | none => rw [hn] at p; exact (show False from p).elim
      | some od =>
        rw [hn] at p
        cases od with
        | none => exact .inl ⟨j1 hn, p ι H σ .refl R V⟩
        | some d =>
          obtain ⟨go, y⟩ := j2 d hn
          refine .inr ⟨go, fun σ H => ∃ env h ι, Ext ι0 h1.length H0 ι h.length H ∧ Rel C.X.K ι h H ∧ RV C ι h.length H env σ ∧ PostS C ι h.length H (forN it g q m (i + 1) env h) D,
            fun σ' H' hq => ⟨m, Nat.lt_succ_self m, hq⟩, fun xv H2 hy => ?_⟩
          obtain ⟨ι2, x2, R2, r2⟩ := y xv H2 hy
          have p : PostS C ι h.length H (again ((onlyNx (g d env h)).then q) (forN it g q m (i + 1))) D := p
          have p2 := PostS.shift p x2
          refine sg.run d xv env h σ H2 ι2 _ R2 (V.ext R x2) r2 ?_
          cases hgd : g d env h with
          | nx e3 h3 =>
            rw [hgd] at p2
            refine fun ι3 H3 σ3 x3 R3 V3 => ?_
            refine sb.run e3 h3 σ3 H3 ι3 _ R3 V3 ?_
            exact PostS.again (PostS.shift p2 x3) fun e4 h4 ι4 H4 σ4 x4 R4 V4 p4 => ⟨e4, h4, ι4, x.trans (x2.trans (x3.trans x4)), R4, V4, p4⟩
          | _ => rw [hgd] at p2; exact (show False from p2).elim
  | exc c fs h1 => rw [hm] at p; exact fun ι' H' Cl dd x R' mc xd => p ι' H' σ Cl dd x R' (V.ext R x) mc xd
  | stuck => rw [hm] at p; exact p
end

/-! ### the weakest reading of a plain function -/
def canE (C : Ct) (m : EM) : TE := fun σ H Q => ∃ env h ι, Rel C.X.K ι h H ∧ RV C ι h.length H env σ ∧ PostE C ι h.length H σ (m env h) Q
def canT (C : Ct) (m : EM) : TT := fun σ H Q => ∃ env h ι, Rel C.X.K ι h H ∧ RV C ι h.length H env σ ∧ PostT C ι h.length H σ (m env h) Q
theorem ME.can {C : Ct} {e : Expr} {m : EM} (h : ME C e m) : PE C.X e (canE C m) := by
  obtain ⟨t, p, s⟩ := h
  exact ⟨fun pins st σ H Q I ⟨env, h, ι, R, V, q⟩ => p.run pins st σ H Q I (s.run env h σ H ι Q R V q)⟩
theorem MT.can {C : Ct} {e : Expr} {m : EM} (h : MT C e m) : PT C.X e (canT C m) := by
  obtain ⟨t, p, s⟩ := h
  exact ⟨fun pins st σ H Q I ⟨env, h, ι, R, V, q⟩ => p.run pins st σ H Q I (s.run env h σ H ι Q R V q)⟩

/-! ### comprehensions -/
/-- the context of a comprehension's block -/
abbrev Ct.blk (C : Ct) (s : Shared) (H : Hp) (scope : Scope) (Cc : Addr) (cl : List (Str × Addr)) (fp : List Addr) : Ct := ⟨C.X.blk s H scope (compEnvC scope cl Cc C.X.env) fp, fun _ _ _ _ => False, none⟩
/-- what the readings of a block's parts lean on -/
abbrev Ct.flat (C : Ct) : Ct := ⟨C.X, fun _ _ _ _ => False, none⟩
/-- of a length that a list, a tuple, a text may have -/
def Fits (n : Nat) : Prop := n ≤ sizeLine
def FitsL (n : Nat) : Prop := n < sizeLine
noncomputable instance {n : Nat} : Decidable (Fits n) := Classical.propDecidable _
noncomputable instance {n : Nat} : Decidable (FitsL n) := Classical.propDecidable _
def wipeE (e : AE) : List Nat → AE
  | [] => e
  | v :: vs => (wipeE e vs).set v none
/-- the tests and the element at the items from i on -/
noncomputable def lcN (it : AIt) (g : GM) (tt : EM) (te : EM) (e0 : AE) : Nat → Nat → List D → AH → ER ⊕ (List D × AH)
  | 0, _ => fun _ _ => .inl .stuck
  | k + 1, i => fun acc h => match it.nxt i h with
    | some none => .inr (acc, h)
    | some (some d) => (match g d e0 h with
      | .nx e1 h1 => (match tt e1 h1 with
        | .ok (.bl true) h2 => (match te e1 h2 with
          | .ok d2 h3 => if FitsL acc.length then lcN it g tt te e0 k (i + 1) (acc ++ [d2]) h3 else .inl .stuck
          | _ => .inl .stuck)
        | .ok (.bl false) h2 => lcN it g tt te e0 k (i + 1) acc h2
        | _ => .inl .stuck)
      | _ => .inl .stuck)
    | none => .inl .stuck
noncomputable def eLc (mi : IM) (g : GM) (tt : EM) (te : EM) (vs : List Nat) : EM := fun e h => match mi e h with
  | .ok it h1 => (match lcN it g tt te (wipeE e vs) (it.n + 1) 0 [] h1 with
    | .inr (acc, h2) => .ok (.ref h2.length) (h2 ++ [.lst acc])
    | .inl _ => .stuck)
  | .exc c fs h1 => .exc c fs h1
  | .stuck => .stuck
section
variable {K : PySem.W.Frag} {C : Ct} {ι ι' : Nat → Addr} {n n' : Nat} {H H' : Hp} {h h' : AH} {env : AE} {σ : List (Option V)} {d : D} {ds : List D} {v : V} {xs : List V} {a p : Addr} {i : Nat} {o : AO} {ho : HO}
theorem RE.wipe (r : RE K ι n H env σ) : ∀ vs : List Nat, RE K ι n H (wipeE env vs) (L2.wipe σ vs)
  | [] => r
  | v :: vs => (RE.wipe r vs).forget v none
/-- a fresh number -/
def ιset (ι : Nat → Addr) (n : Nat) (p : Addr) : Nat → Addr := fun i => if i = n then p else ι i
theorem ιset_same : ιset ι n p n = p := if_pos rfl
theorem ιset_ne (hi : i ≠ n) : ιset ι n p i = ι i := if_neg hi
theorem ιset_lt (hi : i < n) : ιset ι n p i = ι i := if_neg (Nat.ne_of_lt hi)
theorem Ext.tup (hp : H p = none) : Ext ι n H ι n (upd H p ho) := by
  refine ⟨Nat.le_refl _, fun _ _ => rfl, fun i h1 h2 => absurd h2 (Nat.not_lt.mpr h1), fun b o e _ => ?_, fun b e => ?_⟩
  · rw [upd_ne (ne_of_none e hp)]; exact e
  · unfold upd at e
    split at e
    · cases e
    · exact e
theorem Rel.at_ne (R : Rel K ι h H) (hi : i < h.length) (hp : H p = none) : ι i ≠ p := fun e => by
  have q := R.mut hi
  rw [e, hp] at q
  exact q
theorem Rel.tup (R : Rel K ι h H) (hp : H p = none) (x : Ext ι h.length H ι h.length (upd H p ho)) : Rel K ι h (upd H p ho) := by
  refine ⟨R.inj, fun i o e => ?_⟩
  have hi : i < h.length := (List.getElem?_eq_some_iff.mp e).1
  exact RO.mono (H0 := H) (x.grow R) (upd_ne (R.at_ne hi hp)) (R.ob i o e)
/-- a new thing of the abstract heap -/
theorem Ext.new (hp : H p = none) : Ext ι n H (ιset ι n p) (n + 1) (upd H p ho) := by
  refine ⟨Nat.le_succ _, fun i hi => ιset_lt hi, fun i h1 h2 => ?_, fun b o e _ => ?_, fun b e => ?_⟩
  · have e : i = n := by omega
    rw [e, ιset_same]; exact hp
  · rw [upd_ne (ne_of_none e hp)]; exact e
  · unfold upd at e
    split at e
    · cases e
    · exact e
theorem Rel.new (R : Rel K ι h H) (hp : H p = none) (hn : Ext ι h.length H (ιset ι h.length p) (h.length + 1) (upd H p ho) → RO K (ιset ι h.length p) (h.length + 1) (upd H p ho) o p) : Rel K (ιset ι h.length p) (h ++ [o]) (upd H p ho) := by
  have x : Ext ι h.length H (ιset ι h.length p) (h.length + 1) (upd H p ho) := Ext.new hp
  refine ⟨fun i j hi hj e => ?_, fun i o' e => ?_⟩
  · simp only [List.length_append, List.length_cons, List.length_nil] at hi hj
    by_cases h1 : i = h.length
    · by_cases h2 : j = h.length
      · rw [h1, h2]
      · rw [h1, ιset_same, ιset_ne h2] at e
        exact absurd e.symm (R.at_ne (by omega) hp)
    · by_cases h2 : j = h.length
      · rw [h2, ιset_same, ιset_ne h1] at e
        exact absurd e (R.at_ne (by omega) hp)
      · rw [ιset_ne h1, ιset_ne h2] at e
        exact R.inj i j (by omega) (by omega) e
  · simp only [List.length_append, List.length_cons, List.length_nil]
    by_cases h1 : i < h.length
    · rw [List.getElem?_append_left h1] at e
      have q := R.ob i o' e
      rw [ιset_lt h1]
      exact RO.mono (H0 := H) (x.grow R) (upd_ne (R.at_ne h1 hp)) q
    · have hi : i = h.length := by
        have := (List.getElem?_eq_some_iff.mp e).1
        simp only [List.length_append, List.length_cons, List.length_nil] at this
        omega
      subst hi
      rw [List.getElem?_append_right (Nat.le_refl _)] at e
      simp only [Nat.sub_self, List.getElem?_cons_zero, Option.some.injEq] at e
      subst e
      rw [ιset_same]
      exact hn x
/-- a thing changed -/
theorem Ext.put (R : Rel K ι h H) (hi : i < h.length) : Ext ι h.length H ι h.length (upd H (ι i) ho) := by
  refine ⟨Nat.le_refl _, fun _ _ => rfl, fun j h1 h2 => absurd h2 (Nat.not_lt.mpr h1), fun b o e hb => ?_, fun b e => ?_⟩
  · rw [upd_ne (Ne.symm (hb i hi))]; exact e
  · unfold upd at e
    split at e
    · cases e
    · exact e
theorem Rel.put (R : Rel K ι h H) (hi : i < h.length) (hn : Ext ι h.length H ι h.length (upd H (ι i) ho) → RO K ι h.length (upd H (ι i) ho) o (ι i)) : Rel K ι (h.set i o) (upd H (ι i) ho) := by
  have x : Ext ι h.length H ι h.length (upd H (ι i) ho) := Ext.put R hi
  refine ⟨fun a b ha hb => R.inj a b (by simpa using ha) (by simpa using hb), fun j o' e => ?_⟩
  rw [List.length_set]
  by_cases hj : i = j
  · subst hj
    rw [List.getElem?_set_self hi] at e
    simp only [Option.some.injEq] at e
    subst e
    exact hn x
  · rw [List.getElem?_set_ne hj] at e
    have hjl : j < h.length := (List.getElem?_eq_some_iff.mp e).1
    have q := R.ob j o' e
    exact RO.mono (H0 := H) (x.grow R) (upd_ne fun z => hj (R.inj i j hi hjl z.symm)) q
/-- a list that the abstract heap does not know is laid there -/
theorem Rel.take (R : Rel K ι h H) (hD : H p = some (.lst xs)) (hne : ∀ i, i < h.length → ι i ≠ p) (r : RDs K ι h.length H ds xs) : Rel K (ιset ι h.length p) (h ++ [.lst ds]) H := by
  have g : Grow K ι h.length H (ιset ι h.length p) (h.length + 1) H := ⟨Nat.le_succ _, fun i hi => ιset_lt hi, fun _ _ q => q, fun _ _ q => q, fun _ _ q => q⟩
  refine ⟨fun i j hi hj e => ?_, fun i o' e => ?_⟩
  · simp only [List.length_append, List.length_cons, List.length_nil] at hi hj
    by_cases h1 : i = h.length
    · by_cases h2 : j = h.length
      · rw [h1, h2]
      · rw [h1, ιset_same, ιset_ne h2] at e
        exact absurd e.symm (hne j (by omega))
    · by_cases h2 : j = h.length
      · rw [h2, ιset_same, ιset_ne h1] at e
        exact absurd e (hne i (by omega))
      · rw [ιset_ne h1, ιset_ne h2] at e
        exact R.inj i j (by omega) (by omega) e
  · simp only [List.length_append, List.length_cons, List.length_nil]
    by_cases h1 : i < h.length
    · rw [List.getElem?_append_left h1] at e
      rw [ιset_lt h1]
      exact RO.mono (H0 := H) g rfl (R.ob i o' e)
    · have hi : i = h.length := by
        have := (List.getElem?_eq_some_iff.mp e).1
        simp only [List.length_append, List.length_cons, List.length_nil] at this
        omega
      subst hi
      rw [List.getElem?_append_right (Nat.le_refl _)] at e
      simp only [Nat.sub_self, List.getElem?_cons_zero, Option.some.injEq] at e
      subst e
      rw [ιset_same]
      exact ⟨xs, hD, r.mono g⟩
end
/-- a target that stores to the slots vs alone -/
def OnlyAt (t : TG) (vs : List Nat) : Prop := ∀ v σ H Q, t v σ H Q → t v σ H fun σ' H' => L2.wipe σ' vs = L2.wipe σ vs ∧ Q σ' H'
theorem wipe_set {σ : L2.St} {i : Nat} {x : Option V} : ∀ {vs : List Nat}, i ∈ vs → L2.wipe (σ.set i x) vs = L2.wipe σ vs
  | v :: vs, h => by
    unfold L2.wipe
    by_cases hv : i = v
    · subst hv
      by_cases hm : i ∈ vs
      · rw [wipe_set hm]
      · have : ∀ vs : List Nat, L2.wipe (List.set σ i x) vs = List.set (L2.wipe σ vs) i (if i ∈ vs then none else x) ∨ True := fun _ => .inr trivial
        have key : ∀ vs : List Nat, i ∉ vs → L2.wipe (List.set σ i x) vs = List.set (L2.wipe σ vs) i x := by
          intro vs
          induction vs with
          | nil => intro _; rfl
          | cons w ws ih =>
            intro hn
            have h1 : i ≠ w := fun e => hn (by rw [e]; exact List.mem_cons_self)
            have h2 : i ∉ ws := fun e => hn (List.mem_cons_of_mem _ e)
            unfold L2.wipe
            rw [ih h2, List.set_comm _ _ h1]
        rw [key vs hm, List.set_set]
    · have hm : i ∈ vs := by
        rcases List.mem_cons.mp h with e | e
        · exact absurd e hv
        · exact e
      rw [wipe_set hm]
theorem wipe_wipe {σ : L2.St} {vs : List Nat} : ∀ {ws : List Nat}, (∀ i ∈ ws, i ∈ vs) → L2.wipe (L2.wipe σ ws) vs = L2.wipe σ vs
  | [], _ => rfl
  | w :: ws, h => by
    show L2.wipe (List.set (L2.wipe σ ws) w none) vs = _
    rw [wipe_set (h w List.mem_cons_self)]
    exact wipe_wipe fun i hi => h i (List.mem_cons_of_mem _ hi)
theorem OnlyAt.at_ {t : TG} {vs : List Nat} (o : OnlyAt t vs) {v : V} {σ W : L2.St} {H : Hp} {Q : L2.St → Hp → Prop} (h : L2.wipe σ vs = W) (q : t v σ H Q) : t v σ H fun σ' H' => L2.wipe σ' vs = W ∧ Q σ' H' := by
  subst h
  exact o v σ H Q q
def MGc (C : Ct) (tg : Expr) (g : GM) (t : TG) (vs : List Nat) : Prop := PG C.X tg t ∧ SimG C t g ∧ OnlyAt t vs
def MGcs (C : Ct) (tg : List Expr) (g : List D → AE → AH → SR) (t : TGs) (vs : List Nat) : Prop := PGs C.X tg t ∧ SimGs C t g ∧ ∀ v σ H Q, t v σ H Q → t v σ H fun σ' H' => L2.wipe σ' vs = L2.wipe σ vs ∧ Q σ' H'
section
variable {C : Ct} {pos : Pos} {vs : List Nat}
theorem mgc_var {i : Nat} {x : Str} (hN : C.X.N.Nodup) (hi : C.X.N[i]? = some x) (hx : Loc C.X.env.scope x) (hv : i ∈ vs) (hne : ∀ y, C.ea = some y → y.i ≠ i := by exact fun _ z => nomatch z) (hf : C.X.fn x = true ∨ C.X.env.scope.names.lookup x = some .local := by first | exact .inl rfl | exact .inr rfl | assumption) : MGc C (.Name x pos) (gVar i) (gName i) vs :=
  ⟨pg_name hN hi hx hf, ⟨fun d v env h σ H ι Q R V r p => p ι H _ .refl R (V.set i r hne)⟩, fun v σ H Q q => ⟨wipe_set hv, q⟩⟩
theorem mgcs_nil : MGcs C [] gNils L2.gNil vs := by
  refine ⟨pgs_nil, ⟨fun ds vs env h σ H ι Q R V r p => ?_⟩, fun v σ H Q q => ⟨q.1, rfl, q.2⟩⟩
  cases ds with
  | nil => exact ⟨RDs.nil.mp r, p ι H σ .refl R V⟩
  | cons _ _ => exact (show False from p).elim
theorem mgcs_cons {e : Expr} {es : List Expr} {g : GM} {r : List D → AE → AH → SR} {t : TG} {u : TGs} (h1 : MGc C e g t vs) (h2 : MGcs C es r u vs) (hs : (assignEach (e :: es) C.X.env).map (·.2) = assign e C.X.env :: (assignEach es C.X.env).map (·.2) := by rfl)
    (mono : ∀ v σ H (Q Q' : List (Option V) → Hp → Prop), (∀ a b, Q a b → Q' a b) → t v σ H Q → t v σ H Q') : MGcs C (e :: es) (gCons g r) (L2.gCons t u) vs := by
  obtain ⟨p, s1, o1⟩ := h1
  obtain ⟨p', s2, o2⟩ := h2
  refine ⟨pgs_cons p p' hs, ⟨fun ds vs env h σ H ι Q R V rr pp => ?_⟩, fun v σ H Q q => ?_⟩
  · cases ds with
    | nil => exact (show False from pp).elim
    | cons d ds =>
      obtain ⟨v, vr, rfl, r1, r2⟩ := RDs.cons.mp rr
      refine ⟨v, vr, rfl, ?_⟩
      obtain ⟨e1, h1, eg, pq⟩ := SR.then_only pp
      refine s1.run d v env h σ H ι _ R V r1 ?_
      rw [eg]
      exact fun ι' H' σ' x R' V' => s2.run ds vr e1 h1 σ' H' ι' Q R' V' (r2.mono (x.grow R)) (PostS.shift pq x)
  · obtain ⟨x, r, rfl, q⟩ := q
    refine ⟨x, r, rfl, ?_⟩
    refine mono _ _ _ _ _ (fun a b hq => ?_) (o1 _ _ _ _ q)
    obtain ⟨e1, q1⟩ := hq
    have := o2 r a b Q q1
    rw [e1] at this
    exact this
theorem mono_name {i : Nat} : ∀ v σ H (Q Q' : List (Option V) → Hp → Prop), (∀ a b, Q a b → Q' a b) → gName i v σ H Q → gName i v σ H Q' := fun _ _ _ _ _ f q => f _ _ q
theorem mgc_tup {es : List Expr} {kk k : Nat} {r : List D → AE → AH → SR} {u : TGs} (hc : C.X.calm = true) (h : MGcs C es r u vs) (hn : (assignEach es C.X.env).length = k := by rfl) (hst : (assignEach es C.X.env).findIdx? (·.1) = none := by rfl) : MGc C (.Tuple es kk pos) (gTup k r) (L2.gTup C.X.K k u) vs := by
  obtain ⟨p, s1, o1⟩ := h
  refine ⟨pg_tup hc p hn hst, ⟨fun d v env h σ H ι Q R V rr pp => ?_⟩, fun v σ H Q q => ?_⟩
  · cases d with
    | tup ds =>
      obtain ⟨a, vs, rfl, q, r2⟩ := RD.tup.mp rr
      unfold gTup at pp
      dsimp only at pp
      by_cases hk : ds.length = k
      · rw [if_pos hk] at pp
        exact ⟨a, vs, rfl, q, by rw [← r2.length]; exact hk, s1.run ds vs env h σ H ι Q R V r2 pp⟩
      · rw [if_neg hk] at pp; exact (show False from pp).elim
    | _ => exact (show False from pp).elim
  · obtain ⟨a, xs, e, hq, l, q⟩ := q
    exact ⟨a, xs, e, hq, l, o1 _ _ _ _ q⟩
end
/-- a comprehension's tests -/
def MTs (C : Ct) (es : List Expr) (m : EM) : Prop := ∃ t, PTs C.X es t ∧ SimT C t m
theorem mts_nil {C : Ct} : MTs C [] (eC (.bl true)) := ⟨_, pts_nil, ⟨fun env h σ H ι Q R V p => by
  obtain ⟨b, e, p⟩ := p
  cases e
  exact p ι H .refl R⟩⟩
theorem mts_one {C : Ct} {c : Expr} {m : EM} (h : MT C c m) : MTs C [c] m := by
  obtain ⟨t, p, s⟩ := h
  exact ⟨t, pts_one p, s⟩
theorem MTs.can {C : Ct} {e : List Expr} {m : EM} (h : MTs C e m) : PTs C.X e (canT C m) := by
  obtain ⟨t, p, s⟩ := h
  exact ⟨fun pins st σ H Q I ⟨env, h, ι, R, V, q⟩ => p.run pins st σ H Q I (s.run env h σ H ι Q R V q)⟩
section
variable {C : Ct} {elt tg iter : Expr} {ifs : List Expr} {scope : Scope} {own : List (Str × Nat)} {pos : Pos} {mi : IM} {g : GM} {t : TG} {mt me : EM}
theorem SimE.lc {ti : TI} (si : SimI C ti mi) (sg : ∀ s H Cc cl fp, SimG (C.blk s H scope Cc cl fp) t g ∧ OnlyAt t (own.map (·.2))) : SimE C (tLc ti t (canT C.flat mt) (canE C.flat me) (own.map (·.2))) (eLc mi g mt me (own.map (·.2))) := by
  refine ⟨fun env h σ H ι Q R V p => ?_⟩
  refine si.run env h σ H ι _ R V ?_
  unfold eLc at p
  cases hm : mi env h with
  | ok it h1 =>
    rw [hm] at p
    dsimp only at p
    refine fun ι0 H0 J x0 R0 J0 Dp hD => ?_
    have V0 := V.ext R x0
    cases hl : lcN it g mt me (wipeE env (own.map (·.2))) (it.n + 1) 0 [] h1 with
    | inl o => rw [hl] at p; exact (show False from p).elim
    | inr pr =>
      obtain ⟨accF, h2⟩ := pr
      rw [hl] at p
      dsimp only at p
      refine ⟨fun i m H => ∃ h ι acc xs, Ext ι0 h1.length H0 ι h.length H ∧ Rel C.X.K ι h H ∧ RE C.X.K ι h.length H (wipeE env (own.map (·.2))) (L2.wipe σ (own.map (·.2))) ∧ H Dp = some (.lst xs) ∧ RDs C.X.K ι h.length H acc xs ∧ (∀ i, i < h.length → ι i ≠ Dp) ∧
        lcN it g mt me (wipeE env (own.map (·.2))) m i acc h = .inr (accF, h2), ⟨it.n + 1, h1, ι0, [], [], Ext.tup hD, Rel.tup R0 hD (Ext.tup hD), (V0.re.wipe _).mono ((Ext.tup hD).grow R0), upd_same, RDs.nil', fun i hi => R0.at_ne hi hD, hl⟩, ?_⟩
      rintro i m H ⟨h, ι', acc, xs, x, R, E, hDl, ra, hne, hq⟩
      cases m with
      | zero => cases hq
      | succ m =>
        obtain ⟨j1, j2⟩ := J0 i ι' h H x R
        unfold lcN at hq
        cases hn : it.nxt i h with
        | none => rw [hn] at hq; cases hq
        | some od =>
          rw [hn] at hq
          cases od with
          | none =>
            refine .inl ⟨j1 hn, ?_⟩
            dsimp only at hq
            cases hq
            have e1 : ((h2 ++ [AO.lst accF]).length) = h2.length + 1 := by simp
            refine p (ιset ι' h2.length Dp) H (.ref Dp) ?_ (R.take hDl hne ra) ?_
            · have hle := x.le
              have hle0 := x0.le
              rw [e1]
              refine ⟨by omega, fun j hj => ?_, fun j j1 j2 => ?_, fun b o e hb => ?_, fun b e => x0.st b (x.st b e)⟩
              · rw [ιset_lt (by omega), x.ag j (by omega), x0.ag j hj]
              · by_cases hj : j = h2.length
                · rw [hj, ιset_same]; exact x0.st _ hD
                · rw [ιset_ne hj]; exact (x0.trans x).nw j j1 (by omega)
              · exact (x0.trans x).fr b o e hb
            · rw [e1]
              exact RD.ref.mpr ⟨Nat.lt_succ_self _, by rw [ιset_same]⟩
          | some d =>
            dsimp only at hq
            obtain ⟨go, y⟩ := j2 d hn
            refine .inr ⟨go, _, fun H' hN => ⟨m, Nat.lt_succ_self m, hN⟩, fun xv H2 hy => ?_⟩
            obtain ⟨ι2, x2, R2, r2⟩ := y xv H2 hy
            have hD2 : H2 Dp = some (.lst xs) := x2.fr Dp _ hDl hne
            have hne2 : ∀ i, i < h.length → ι2 i ≠ Dp := fun i hi => by rw [x2.ag i hi]; exact hne i hi
            have E2 := E.mono (x2.grow R)
            have sgo := sg C.X.s_0 H2 0 [] []
            cases hgd : g d (wipeE env (own.map (·.2))) h with
            | nx e3 h3 =>
              rw [hgd] at hq
              dsimp only at hq
              refine sgo.2.at_ (wipe_wipe fun _ h => h) (sgo.1.run d xv _ h _ H2 ι2 _ R2 ⟨E2, trivial⟩ r2 ?_)
              rw [hgd]
              refine fun ι3 H3 σ3 x3 R3 V3 => ?_
              have hD3 : H3 Dp = some (.lst xs) := x3.fr Dp _ hD2 hne2
              have hne3 : ∀ i, i < h3.length → ι3 i ≠ Dp := fun i hi => by
                by_cases hlt : i < h.length
                · rw [x3.ag i hlt]; exact hne2 i hlt
                · intro e
                  have := x3.nw i (Nat.not_lt.mp hlt) hi
                  rw [e, hD2] at this; cases this
              have V3' : RV C.flat ι3 h3.length H3 e3 σ3 := ⟨V3.re, trivial⟩
              refine ⟨e3, h3, ι3, R3, V3', ?_⟩
              cases htt : mt e3 h3 with
              | ok db h4 =>
                rw [htt] at hq
                cases db with
                | bl b =>
                  refine ⟨b, rfl, fun ι4 H4 x4 R4 => ?_⟩
                  have hD4 : H4 Dp = some (.lst xs) := x4.fr Dp _ hD3 hne3
                  have hne4 : ∀ i, i < h4.length → ι4 i ≠ Dp := fun i hi => by
                    by_cases hlt : i < h3.length
                    · rw [x4.ag i hlt]; exact hne3 i hlt
                    · intro e
                      have := x4.nw i (Nat.not_lt.mp hlt) hi
                      rw [e, hD3] at this; cases this
                  have xx := x2.trans (x3.trans x4)
                  cases b with
                  | true =>
                    dsimp only at hq
                    refine iteT ?_
                    refine ⟨e3, h4, ι4, R4, V3'.ext R3 x4, ?_⟩
                    cases hte : me e3 h4 with
                    | ok d5 h5 =>
                      rw [hte] at hq
                      dsimp only at hq
                      by_cases hz : FitsL acc.length
                      · rw [if_pos hz] at hq
                        refine fun ι5 H5 v5 x5 R5 r5 => ?_
                        have hD5 : H5 Dp = some (.lst xs) := x5.fr Dp _ hD4 hne4
                        have hne5 : ∀ i, i < h5.length → ι5 i ≠ Dp := fun i hi => by
                          by_cases hlt : i < h4.length
                          · rw [x5.ag i hlt]; exact hne4 i hlt
                          · intro e
                            have := x5.nw i (Nat.not_lt.mp hlt) hi
                            rw [e, hD4] at this; cases this
                        have x25 := xx.trans x5
                        refine ⟨xs, hD5, by rw [← ra.length]; exact hz, h5, ι5, acc ++ [d5], xs ++ [v5], ?_, ?_, ?_, upd_same, ?_, hne5, hq⟩
                        · have xa := x.trans x25
                          refine ⟨xa.le, xa.ag, xa.nw, fun b o e hb => ?_, fun b e => ?_⟩
                          · have hbD : b ≠ Dp := ne_of_none e hD
                            rw [upd_ne hbD]; exact xa.fr b o e hb
                          · by_cases hb : b = Dp
                            · subst hb; rw [upd_same] at e; cases e
                            · rw [upd_ne hb] at e; exact xa.st b e
                        all_goals
                          have gg : Grow C.X.K ι5 h5.length H5 ι5 h5.length (upd H5 Dp (.lst (xs ++ [v5]))) := ⟨Nat.le_refl _, fun _ _ => rfl, fun a vs q => by rw [upd_ne (ne_of q hD5 (by intro z; cases z))]; exact q, fun a vs q => by
                              rcases q with ⟨o, q⟩ | q
                              · exact .inl ⟨o, by rw [upd_ne (ne_of q hD5 (by intro z; cases z))]; exact q⟩
                              · exact .inr q, fun a vs q => by
                              obtain ⟨o, q, dn⟩ := q
                              exact ⟨o, by rw [upd_ne (ne_of q hD5 (by intro z; cases z))]; exact q, dn⟩⟩
                        · refine ⟨R5.inj, fun i o e => ?_⟩
                          have hi : i < h5.length := (List.getElem?_eq_some_iff.mp e).1
                          exact RO.mono (H0 := H5) gg (upd_ne (hne5 i hi)) (R5.ob i o e)
                        · exact ((E2.mono (x3.grow R2)).mono ((x4.trans x5).grow R3)).mono gg
                        · exact RDs.append ((ra.mono (x25.grow R)).mono gg) (RDs.cons' (r5.mono gg) RDs.nil')
                      · rw [if_neg hz] at hq; cases hq
                    | exc c fs h5 => rw [hte] at hq; cases hq
                    | stuck => rw [hte] at hq; cases hq
                  | false =>
                    dsimp only at hq
                    refine iteF ?_
                    exact ⟨h4, ι4, acc, xs, x.trans xx, R4, (E2.mono (x3.grow R2)).mono (x4.grow R3), hD4, ra.mono (xx.grow R), hne4, hq⟩
                | _ => cases hq
              | exc c fs h4 => rw [htt] at hq; cases hq
              | stuck => rw [htt] at hq; cases hq
            | _ => rw [hgd] at hq; cases hq
  | exc c fs h1 => rw [hm] at p; exact p
  | stuck => rw [hm] at p; exact p
end
end Rf

set_option maxHeartbeats 1000000
namespace Rf
open PySem PySem.Spec PyProof.Rows L2

section
variable {C : Ct} {elt tg iter : Expr} {ifs : List Expr} {scope : Scope} {own : List (Str × Nat)} {pos : Pos} {mi : IM} {g : GM} {t : TG} {mt me : EM}
theorem me_lc (hc : C.X.calm = true) (hN : C.X.N.Nodup) (hi : MI C tg iter mi) (ok : BlkOk C.X.N C.X.env.scope scope own)
    (hg : ∀ s H Cc cl fp, MGc (C.blk s H scope Cc cl fp) tg g t (own.map (·.2)))
    (ht : ∀ s H Cc cl fp, MTs (C.blk s H scope Cc cl fp) ifs mt) (he : ∀ s H Cc cl fp, ME (C.blk s H scope Cc cl fp) elt me) (hs : ∀ x, foldedSetIterable iter C.X.env x = pure x := by intro _; rfl) :
    ME C (.ListComp elt [⟨tg, iter, ifs, 0⟩] scope pos) (eLc mi g mt me (own.map (·.2))) := by
  obtain ⟨ti, pi, si⟩ := hi
  exact ⟨_, pe_lc hc hN pi ok (fun s H Cc cl fp => (hg s H Cc cl fp).1) (fun s H Cc cl fp => (ht s H Cc cl fp).can) (fun s H Cc cl fp => (he s H Cc cl fp).can) hs, SimE.lc si fun s H Cc cl fp => (hg s H Cc cl fp).2⟩
theorem ms_setLc {i : Nat} {y : Str} {py spos : Pos} (hc : C.X.calm = true) (hN : C.X.N.Nodup) (hy : C.X.N[i]? = some y) (hyl : C.X.env.scope.names.lookup y = some .local)
    (hsw : swapsWith (.ListComp elt [⟨tg, iter, ifs, 0⟩] scope pos) (some (.Name y py)) spos.line C.X.env = pure true) (hi : MI C tg iter mi) (ok : BlkOk C.X.N C.X.env.scope scope own)
    (hg : ∀ s H Cc cl fp, MGc (C.blk s H scope Cc cl fp) tg g t (own.map (·.2)))
    (ht : ∀ s H Cc cl fp, MTs (C.blk s H scope Cc cl fp) ifs mt) (he : ∀ s H Cc cl fp, ME (C.blk s H scope Cc cl fp) elt me) (hne : ∀ y, C.ea = some y → y.i ≠ i := by exact fun _ z => nomatch z) (hs : ∀ x, foldedSetIterable iter C.X.env x = pure x := by intro _; rfl) :
    MS C (.Assign [.Name y py] (.ListComp elt [⟨tg, iter, ifs, 0⟩] scope pos) spos) (sSet i (eLc mi g mt me (own.map (·.2)))) := by
  obtain ⟨ti, pi, si⟩ := hi
  refine ⟨_, ps_setLc (te := canE C.flat me) (tt := canT C.flat mt) hc hN hy hyl hsw pi ok (fun s H Cc cl fp => (hg s H Cc cl fp).1) (fun s H Cc cl fp => (ht s H Cc cl fp).can) (fun s H Cc cl fp => (he s H Cc cl fp).can) hs, ⟨fun env h σ H ι D R V p => ?_⟩⟩
  have s1 : SimE C _ (eLc mi g mt me (own.map (·.2))) := SimE.lc si fun s H Cc cl fp => (hg s H Cc cl fp).2
  exact s1.thenS R V p fun d h1 ι1 H1 v1 x1 R1 V1 r1 p1 => p1 ι1 H1 _ .refl R1 (V1.set i r1 hne)
end

/-! ### no numbers within -/
mutual
def D.pure : D → Bool
  | .ref _ => false
  | .tup ds => pures ds
  | .rol ds => pures ds
  | .kt ds => pures ds
  | .non => true
  | .bl _ => true
  | .int _ => true
  | .str _ => true
  | .ty _ => true
def pures : List D → Bool
  | [] => true
  | d :: ds => d.pure && pures ds
end
def AO.flat : AO → Bool
  | .lst ds => pures ds
  | .dK kvs => pures (kvs.map (·.2))
  | .dT kvs => pures (kvs.map (·.2))
  | .lk kvs _ _ => pures (kvs.map (·.2))
theorem pures_iff : ∀ {ds : List D}, pures ds = true ↔ ∀ d ∈ ds, d.pure = true
  | [] => by simp [pures]
  | d :: ds => by simp [pures, pures_iff (ds := ds)]
mutual
def D.lt_ (n : Nat) : D → Prop
  | .ref i => i < n
  | .tup ds => lts_ n ds
  | .rol ds => lts_ n ds
  | .kt ds => lts_ n ds
  | .non => True
  | .bl _ => True
  | .int _ => True
  | .str _ => True
  | .ty _ => True
def lts_ (n : Nat) : List D → Prop
  | [] => True
  | d :: ds => d.lt_ n ∧ lts_ n ds
end
section
variable {K : PySem.W.Frag} {ι ι' : Nat → Addr} {n n' : Nat} {H H' : Hp} {h h' : AH} {d : D} {ds : List D} {v : V} {vs : List V}
mutual
theorem RD.lt_ : ∀ {d : D} {v : V}, RD K ι n H d v → d.lt_ n
  | .ref i, v, r => (RD.ref.mp r).1
  | .tup ds, v, r => by obtain ⟨_, _, _, _, r⟩ := RD.tup.mp r; exact RDs.below r
  | .rol ds, v, r => by obtain ⟨_, _, _, _, r⟩ := RD.rol.mp r; exact RDs.below r
  | .kt ds, v, r => by obtain ⟨_, _, _, _, r⟩ := RD.kt.mp r; exact RDs.below r
  | .non, _, _ => trivial
  | .bl _, _, _ => trivial
  | .int _, _, _ => trivial
  | .str _, _, _ => trivial
  | .ty _, _, _ => trivial
theorem RDs.below : ∀ {ds : List D} {vs : List V}, RDs K ι n H ds vs → lts_ n ds
  | [], _, _ => trivial
  | d :: ds, vs, r => by
    obtain ⟨v, r', _, h1, h2⟩ := RDs.cons.mp r
    exact ⟨RD.lt_ h1, RDs.below h2⟩
end
mutual
theorem D.pure_lt : ∀ {d : D}, d.pure = true → d.lt_ n
  | .ref i, r => by cases r
  | .tup ds, r => pures_lt (by unfold D.pure at r; exact r)
  | .rol ds, r => pures_lt (by unfold D.pure at r; exact r)
  | .kt ds, r => pures_lt (by unfold D.pure at r; exact r)
  | .non, _ => trivial
  | .bl _, _ => trivial
  | .int _, _ => trivial
  | .str _, _ => trivial
  | .ty _, _ => trivial
theorem pures_lt : ∀ {ds : List D}, pures ds = true → lts_ n ds
  | [], _ => trivial
  | d :: ds, r => by
    unfold pures at r
    simp only [Bool.and_eq_true] at r
    exact ⟨D.pure_lt r.1, pures_lt r.2⟩
end
mutual
/-- numbers below n alone matter -/
theorem RD.cut (ag : ∀ i, i < n → ι' i = ι i) : ∀ {d : D} {v : V}, RD K ι n' H d v → d.lt_ n → RD K ι' n H d v
  | .ref i, v, r, b => RD.ref.mpr ⟨b, by rw [ag i b]; exact (RD.ref.mp r).2⟩
  | .tup ds, v, r, b => by
    obtain ⟨a, vs, e, q, r⟩ := RD.tupX.mp r
    exact RD.tup.mpr ⟨a, vs, e, q, RDs.cut ag r (by unfold D.lt_ at b; exact b)⟩
  | .rol ds, v, r, b => by
    obtain ⟨a, vs, e, q, r⟩ := RD.rol.mp r
    exact RD.rol.mpr ⟨a, vs, e, q, RDs.cut ag r (by unfold D.lt_ at b; exact b)⟩
  | .kt ds, v, r, b => by
    obtain ⟨a, vs, e, q, r⟩ := RD.kt.mp r
    exact RD.kt.mpr ⟨a, vs, e, q, RDs.cut ag r (by unfold D.lt_ at b; exact b)⟩
  | .non, _, r, _ => by unfold RD at r ⊢; exact r
  | .bl _, _, r, _ => by unfold RD at r ⊢; exact r
  | .int _, _, r, _ => by unfold RD at r ⊢; exact r
  | .str _, _, r, _ => by unfold RD at r ⊢; exact r
  | .ty _, _, r, _ => by unfold RD at r ⊢; exact r
theorem RDs.cut (ag : ∀ i, i < n → ι' i = ι i) : ∀ {ds : List D} {vs : List V}, RDs K ι n' H ds vs → lts_ n ds → RDs K ι' n H ds vs
  | [], _, r, _ => by unfold RDs at r ⊢; exact r
  | d :: ds, vs, r, b => by
    obtain ⟨v, r', e, h1, h2⟩ := RDs.cons.mp r
    exact RDs.cons.mpr ⟨v, r', e, RD.cut ag h1 b.1, RDs.cut ag h2 b.2⟩
end
def AO.lt_ (n : Nat) : AO → Prop
  | .lst ds => lts_ n ds
  | .dK kvs => lts_ n (kvs.map (·.2))
  | .dT kvs => lts_ n (kvs.map (·.2))
  | .lk kvs _ _ => lts_ n (kvs.map (·.2))
theorem AO.flat_lt {o : AO} (f : o.flat = true) : o.lt_ n := by
  cases o <;> exact pures_lt f
theorem RO.below {o : AO} {a : Addr} (r : RO K ι n H o a) : o.lt_ n := by
  cases o with
  | lst ds => obtain ⟨_, _, r⟩ := r; exact r.below
  | dK ds => obtain ⟨_, _, _, r⟩ := r; exact r.below
  | dT ds => obtain ⟨_, _, _, r⟩ := r; exact r.below
  | lk ds od ws => obtain ⟨_, _, r⟩ := r; exact r.below
theorem RO.cut (ag : ∀ i, i < n → ι' i = ι i) {o : AO} {a : Addr} (r : RO K ι n' H o a) (b : o.lt_ n) : RO K ι' n H o a := by
  cases o with
  | lst ds => obtain ⟨vs, e, r⟩ := r; exact ⟨vs, e, r.cut ag b⟩
  | dK ds => obtain ⟨vs, e, k, r⟩ := r; exact ⟨vs, e, k, r.cut ag b⟩
  | dT ds => obtain ⟨vs, e, k, r⟩ := r; exact ⟨vs, e, k, r.cut ag b⟩
  | lk ds od ws => obtain ⟨e, k, r⟩ := r; exact ⟨e, k, r.cut ag b⟩
end

/-! ### what a def leaves: its own things are dropped where nothing leads to them -/
/-- the things of h stand as they stood, or are flat -/
def Keep (h h' : AH) : Prop := h.length ≤ h'.length ∧ ∀ i o, i < h.length → h'[i]? = some o → h[i]? = some o ∨ o.flat = true
open Classical in
noncomputable def gc (h : AH) (o : ER) : ER := match o with
  | .ok d h' => if Keep h h' then (if d.pure = true then .ok d (h'.take h.length) else match d with
      | .ref i => if h.length ≤ i ∧ ∃ o, h'[i]? = some o ∧ o.flat = true then .ok (.ref h.length) (h'.take h.length ++ (h'[i]?).toList) else .ok d h'
      | _ => .ok d h') else .ok d h'
  | r => r
theorem gc_pure {h h' : AH} {d : D} (k : Keep h h') (p : d.pure = true) : gc h (.ok d h') = .ok d (h'.take h.length) := by
  unfold gc
  simp only [if_pos k, if_pos p]
theorem gc_list {h h' : AH} {i : Nat} {o : AO} (k : Keep h h') (hi : h.length ≤ i) (e : h'[i]? = some o) (f : o.flat = true) : gc h (.ok (.ref i) h') = .ok (.ref h.length) (h'.take h.length ++ [o]) := by
  unfold gc
  simp only [if_pos k]
  rw [if_neg (by unfold D.pure; exact Bool.false_ne_true), if_pos ⟨hi, o, e, f⟩, e]
  rfl
/-- the end of a def's body as the end of its call -/
def outS (r : SR) : ER := match r with
  | .rt d h => .ok d h
  | .nx _ h => .ok .non h
  | .exc c fs _ h => .exc c fs h
  | _ => .stuck
/-- a def of N slots, by its body -/
noncomputable def fsem (N : Nat) (m : SM) : List D → AH → ER := fun ds h => gc h (outS (m (ds.map some ++ List.replicate (N - ds.length) none) h))

def PostF (K : PySem.W.Frag) (mg : Str → Option Value) (ι : Nat → Addr) (n : Nat) (H : Hp) (o : ER) (Q : VK) (E : XK) : Prop := match o with
  | .ok d h' => ∀ ι' H' v, Ext ι n H ι' h'.length H' → Rel K ι' h' H' → RD K ι' h'.length H' d v → Q v H'
  | .exc c fs h' => ∀ ι' H' Cl dd, Ext ι n H ι' h'.length H' → Rel K ι' h' H' → mg c = some (.ref Cl) → XD K ι' h'.length H' dd fs → E (.ref Cl) dd H'
  | .stuck => False
/-- the promise of a def that does F -/
def spF (K : PySem.W.Frag) (mg : Str → Option Value) (pl : Nat) (F : List D → AH → ER) : Sp := fun vs H Q E => vs.length = pl ∧ ∃ ι h ds, Rel K ι h H ∧ RDs K ι h.length H ds vs ∧ PostF K mg ι h.length H (F ds h) Q E
section
variable {K : PySem.W.Frag} {mg : Str → Option Value} {ι ι' : Nat → Addr} {H H' : Hp} {h h' : AH} {Q : VK} {E : XK} {o : ER}
theorem PostF.gc (R0 : Rel K ι h H) (p : PostF K mg ι h.length H (Rf.gc h o) Q E) : PostF K mg ι h.length H o Q E := by
  cases o with
  | exc c fs h' => exact p
  | stuck => exact p
  | ok d h' =>
    by_cases k : Keep h h'
    · obtain ⟨kl, kk⟩ := k
      have lt : (h'.take h.length).length = h.length := by rw [List.length_take]; omega
      -- the first things alone
      have cutR : ∀ {ι' : Nat → Addr} {H' : Hp}, Ext ι h.length H ι' h'.length H' → Rel K ι' h' H' → Rel K ι' (h'.take h.length) H' := fun {ι' H'} x R => by
        refine ⟨fun i j hi hj => R.inj i j (by omega) (by omega), fun i o e => ?_⟩
        rw [lt]
        have hi : i < h.length := by have := (List.getElem?_eq_some_iff.mp e).1; omega
        rw [List.getElem?_take_of_lt hi] at e
        refine (R.ob i o e).cut (fun _ _ => rfl) ?_
        rcases kk i o hi e with e0 | f
        · exact (R0.ob i o e0).below
        · exact AO.flat_lt f
      have cutX : ∀ {ι' : Nat → Addr} {H' : Hp}, Ext ι h.length H ι' h'.length H' → Ext ι h.length H ι' h.length H' := fun {ι' H'} x =>
        ⟨Nat.le_refl _, x.ag, fun i h1 h2 => absurd h2 (Nat.not_lt.mpr h1), x.fr, x.st⟩
      by_cases hp : d.pure = true
      · rw [gc_pure ⟨kl, kk⟩ hp] at p
        refine fun ι' H' v x R r => p ι' H' v (by rw [lt]; exact cutX x) (cutR x R) ?_
        rw [lt]
        exact r.cut (fun _ _ => rfl) (D.pure_lt hp)
      · unfold Rf.gc at p
        simp only [if_pos (show Keep h h' from ⟨kl, kk⟩), if_neg hp] at p
        cases d with
        | ref i =>
          dsimp only at p
          by_cases hc : h.length ≤ i ∧ ∃ o, h'[i]? = some o ∧ o.flat = true
          · rw [if_pos hc] at p
            obtain ⟨hi, o, e, f⟩ := hc
            rw [e] at p
            refine fun ι' H' v x R r => ?_
            obtain ⟨hil, rfl⟩ := RD.ref.mp r
            have le : (h'.take h.length ++ [o]).length = h.length + 1 := by rw [List.length_append, lt]; rfl
            have ag : ∀ j, j < h.length → ιset ι' h.length (ι' i) j = ι' j := fun j hj => ιset_lt hj
            refine p (ιset ι' h.length (ι' i)) H' (.ref (ι' i)) ?_ ?_ ?_
            · rw [show (List.take (List.length h) h' ++ (some o).toList) = h'.take h.length ++ [o] from rfl, le]
              refine ⟨Nat.le_succ _, fun j hj => by rw [ag j hj]; exact x.ag j hj, fun j h1 h2 => ?_, x.fr, x.st⟩
              have ej : j = h.length := by omega
              rw [ej, ιset_same]
              exact x.nw i hi hil
            · show Rel K _ (h'.take h.length ++ [o]) H'
              have RT := cutR x R
              refine ⟨fun a b ha hb eab => ?_, fun j o' e' => ?_⟩
              · rw [le] at ha hb
                by_cases h1 : a = h.length
                · by_cases h2 : b = h.length
                  · rw [h1, h2]
                  · rw [h1, ιset_same, ιset_ne h2] at eab
                    have := R.inj i b hil (by omega) eab
                    omega
                · by_cases h2 : b = h.length
                  · rw [h2, ιset_same, ιset_ne h1] at eab
                    have := R.inj a i (by omega) hil eab
                    omega
                  · rw [ιset_ne h1, ιset_ne h2] at eab
                    exact R.inj a b (by omega) (by omega) eab
              · rw [le]
                by_cases h1 : j < h.length
                · rw [List.getElem?_append_left (by omega)] at e'
                  have q := RT.ob j o' e'
                  rw [lt] at q
                  rw [ag j h1]
                  exact RO.mono (H0 := H') ⟨Nat.le_succ _, ag, fun _ _ q => q, fun _ _ q => q, fun _ _ q => q⟩ rfl q
                · have ej : j = h.length := by have := (List.getElem?_eq_some_iff.mp e').1; omega
                  subst ej
                  rw [List.getElem?_append_right (by omega), lt] at e'
                  simp only [Nat.sub_self, List.getElem?_cons_zero, Option.some.injEq] at e'
                  subst e'
                  rw [ιset_same]
                  have q := R.ob i o e
                  refine RO.mono (H0 := H') (ι := ι') (n := h.length) ⟨Nat.le_succ _, ag, fun _ _ q => q, fun _ _ q => q, fun _ _ q => q⟩ rfl (q.cut (fun _ _ => rfl) (AO.flat_lt f))
            · show RD K _ (h'.take h.length ++ [o]).length H' _ _
              rw [le]
              exact RD.ref.mpr ⟨Nat.lt_succ_self _, by rw [ιset_same]⟩
          · rw [if_neg hc] at p; exact p
        | _ => exact p
    · unfold Rf.gc at p
      simp only [if_neg k] at p
      exact p
end

/-! ### a def -/
/-- the context of a def's body -/
abbrev ctOf (P : Program) (w : World) (K : PySem.W.Frag) (mg : Str → Option Value) (base : Heap) (N : List Str) (qual : Str) (scope : Scope) (f : Addr) (cdv : Value) (A : Around) (outer : List Env) (s : Shared) (H : Hp) (E : XK) : Ct :=
  ⟨cxOf (L2.CX P w) P w K mg base N qual scope f cdv A outer s H E, fun cls d _ H => E cls d H, none⟩
theorem start_re {K : PySem.W.Frag} {ι : Nat → Addr} {n : Nat} {H : Hp} {ds : List D} {vs : List V} (N : Nat) (r : RDs K ι n H ds vs) : RE K ι n H (ds.map some ++ List.replicate (N - ds.length) none) (vs.map some ++ List.replicate (N - vs.length) none) := by
  have hl := r.length
  refine ⟨by simp [hl], fun i d e => ?_⟩
  by_cases hi : i < ds.length
  · rw [List.getElem?_append_left (by simpa using hi), List.getElem?_map] at e
    cases q : ds[i]? with
    | none => rw [q] at e; cases e
    | some d' =>
      rw [q] at e
      have e' : d' = d := by simpa using e
      subst e'
      obtain ⟨v, e2, r2⟩ := r.get q
      exact ⟨v, by rw [List.getElem?_append_left (by simp; omega), List.getElem?_map, e2]; rfl, r2⟩
  · rw [List.getElem?_append_right (by simpa using hi)] at e
    have := List.mem_of_getElem? e
    rw [List.mem_replicate] at this
    cases this.2
theorem fn_ok {P : Program} {w : World} {K : PySem.W.Frag} {mg : Str → Option Value} {base : Heap} {x qual : Str} {st : Stmt} {f : Addr} {fd : FuncData} {N ps : List Str} {k n pl : Nat} {m : SM} (F : Fun K x qual st f fd) (S : FnScope N ps (defScope st)) (hN : N.length = n) (hp : ps.length = pl)
    (hm : ∀ cdv A outer s H E, Room k (A.deeper (envOfC qual (defScope st) s.heap.objs.size f cdv)) → MB (ctOf P w K mg base N qual (defScope st) f cdv A outer s H E) (defBody st) m) :
    FnOk P w K mg base (L2.CX P w) (k + 1) f fd ps (spF K mg pl (fsem n m)) := by
  subst hN hp
  refine F.okX S (fun vs H Q E h => h.1) (fun cdv A outer s H vs Q E hr h => ?_)
  obtain ⟨hl, ι, h, ds, R, r, p⟩ := h
  obtain ⟨t, pt, s1⟩ := hm cdv A outer s H E hr
  refine ⟨t, pt, ?_⟩
  have V : RV (ctOf P w K mg base N qual (defScope st) f cdv A outer s H E) ι h.length H (ds.map some ++ List.replicate (N.length - ds.length) none) (L2.start N vs) := ⟨start_re N.length r, trivial⟩
  refine s1.run _ h _ H ι _ R V ?_
  have q := PostF.gc R p
  cases hq : m (ds.map some ++ List.replicate (N.length - ds.length) none) h with
  | nx e h1 =>
    rw [hq] at q
    exact fun ι' H' σ' x R' V' => q ι' H' .non x R' (RD.non.mpr rfl)
  | rt d h1 => rw [hq] at q; exact q
  | exc c fs e h1 => rw [hq] at q; exact fun ι' H' σ' Cl dd x R' V' mc xd => q ι' H' Cl dd x R' mc xd
  | bk e h1 => rw [hq] at q; exact q.elim
  | ct e h1 => rw [hq] at q; exact q.elim
  | stuck => rw [hq] at q; exact q.elim

/-! ### calls of defs -/
/-- called with n arguments -/
def argn (n : Nat) (F : List D → AH → ER) : List D → AH → ER := fun ds h => if ds.length = n then F ds h else .stuck
section
variable {C : Ct} {k pl : Nat} {f : Addr} {fd : FuncData} {ps : List Str} {F : List D → AH → ER} {x : Str} {p pos : Pos} {e : Expr} {es : List Expr} {ml : LM}
theorem spF.of {ι : Nat → Addr} {h : AH} {H : Hp} {σ : List (Option V)} {ds : List D} {vs : List V} {Q : VK} (R : Rel C.X.K ι h H) (r : RDs C.X.K ι h.length H ds vs) (hl : vs.length = pl) (q : PostE C ι h.length H σ (F ds h) Q) : spF C.X.K C.X.mg pl F vs H Q (WE C.W σ) := by
  refine ⟨hl, ι, h, ds, R, r, ?_⟩
  cases hf : F ds h with
  | ok d h' => rw [hf] at q; exact q
  | exc c fs h' => rw [hf] at q; exact q
  | stuck => rw [hf] at q; exact q
theorem me_call (F0 : FnOk C.X.prog C.X.w C.X.K C.X.mg C.X.base (L2.CX C.X.prog C.X.w) k f fd ps (spF C.X.K C.X.mg pl F)) (hr : Room k C.X.A) (hm : C.X.mg x = some (.ref f)) (hk : PySem.W.keepIn C.X.K (.ref f) = true) (hb : Binds C.X.K fd ps []) (tk : Takes C.X C.W)
    (ha : MA C (e :: es) ml) (hlen : (e :: es).length = pl := by rfl) (hg : Gl C.X x := by rfl) (hdb : (x == ("__debug__" : Str)) = false := by decide) (he : starEach (e :: es) C.X.env = (false, eval e C.X.env) :: starEach es C.X.env := by rfl) (hpl : (backTo pos (starEach es C.X.env)).any (·.1) = false := by rfl) :
    ME C (.Call (.Name x p) (e :: es) [] pos) (eCall (argn pl F) ml) := by
  obtain ⟨t, pa, s⟩ := ha
  refine ⟨_, pe_callSD F0 hr hg hm hk hb (dvs := []) .nil (fun σ => passAt tk σ) pa hdb he hpl, ⟨fun env h σ H ι Q R V q => ?_⟩⟩
  refine s.run env h σ H ι _ R V ?_
  unfold eCall at q
  cases hm : ml env h with
  | ok ds h1 =>
    rw [hm] at q
    refine fun ι' H' vs x R' r => ?_
    show spF C.X.K C.X.mg pl F (vs ++ []) H' Q (WE C.W σ)
    rw [List.append_nil]
    have q2 : PostE C ι h.length H σ (if ds.length = pl then F ds h1 else .stuck) Q := q
    by_cases hd : ds.length = pl
    · rw [if_pos hd] at q2
      exact spF.of R' r (by rw [← r.length]; exact hd) (PostE.shift q2 x)
    · rw [if_neg hd] at q2; exact q2.elim
  | exc c fs h1 => rw [hm] at q; exact q
  | stuck => rw [hm] at q; exact q
end
end Rf

set_option maxHeartbeats 1000000
namespace Rf
open PySem PySem.Spec PyProof.Rows L2

/-! ### values made -/
section
variable {C : Ct} {ι : Nat → Addr} {h : AH} {H : Hp} {σ : List (Option V)} {Q : VK} {ds : List D} {vs : List V} {d : D} {v : V}
theorem PostE.here (p : PostE C ι h.length H σ (.ok d h) Q) (R : Rel C.X.K ι h H) (r : RD C.X.K ι h.length H d v) : Q v H := p ι H v .refl R r
theorem PostE.tup (p : PostE C ι h.length H σ (.ok (.tup ds) h) Q) (R : Rel C.X.K ι h H) (r : RDs C.X.K ι h.length H ds vs) {a : Addr} (ha : H a = none) : Q (.ref a) (upd H a (.tup vs)) := by
  have x : Ext ι h.length H ι h.length (upd H a (.tup vs)) := Ext.tup ha
  exact p ι _ (.ref a) x (R.tup ha x) (RD.tup.mpr ⟨a, vs, rfl, upd_same, r.mono (x.grow R)⟩)
theorem PostE.lst (p : PostE C ι h.length H σ (.ok (.ref h.length) (h ++ [.lst ds])) Q) (R : Rel C.X.K ι h H) (r : RDs C.X.K ι h.length H ds vs) {a : Addr} (ha : H a = none) : Q (.ref a) (upd H a (.lst vs)) := by
  have el : (h ++ [AO.lst ds]).length = h.length + 1 := by simp
  have x : Ext ι h.length H (ιset ι h.length a) (h.length + 1) (upd H a (.lst vs)) := Ext.new ha
  refine p (ιset ι h.length a) _ (.ref a) (by rw [el]; exact x) (R.new ha fun x => ⟨vs, upd_same, r.mono (x.grow R)⟩) ?_
  rw [el]
  exact RD.ref.mpr ⟨Nat.lt_succ_self _, by rw [ιset_same]⟩
theorem RD.list {K : PySem.W.Frag} (R : Rel K ι h H) {i : Nat} (r : RD K ι h.length H (.ref i) v) (e : h[i]? = some (.lst ds)) : ∃ vs, v = .ref (ι i) ∧ H (ι i) = some (.lst vs) ∧ RDs K ι h.length H ds vs := by
  obtain ⟨_, e2⟩ := RD.ref.mp r
  obtain ⟨vs, e3, r3⟩ := R.ob i _ e
  exact ⟨vs, e2, e3, r3⟩
end
/-- what a value holds as a row that may be read -/
def seqOf (h : AH) : D → Option (List D)
  | .tup ds => some ds
  | .rol ds => some ds
  | .ref i => match h[i]? with
    | some (.lst ds) => some ds
    | _ => none
  | _ => none
/-- .. a list alone -/
def listOf (h : AH) : D → Option (List D)
  | .rol ds => some ds
  | .ref i => match h[i]? with
    | some (.lst ds) => some ds
    | _ => none
  | _ => none
section
variable {K : PySem.W.Frag} {ι : Nat → Addr} {h : AH} {H : Hp} {ds : List D} {d : D} {v : V}
theorem listOf_sq (R : Rel K ι h H) (r : RD K ι h.length H d v) (e : listOf h d = some ds) : ∃ a vs, v = .ref a ∧ SqL K H a vs ∧ RDs K ι h.length H ds vs := by
  cases d with
  | rol es =>
    cases e
    obtain ⟨a, vs, e, q, r⟩ := RD.rol.mp r
    exact ⟨a, vs, e, q.sq, r⟩
  | ref i =>
    simp only [listOf] at e
    cases he : h[i]? with
    | none => rw [he] at e; cases e
    | some o =>
      rw [he] at e
      cases o with
      | lst es =>
        cases e
        obtain ⟨vs, e1, e2, r2⟩ := r.list R he
        exact ⟨_, vs, e1, SqL.of e2, r2⟩
      | _ => cases e
  | _ => cases e
theorem seqOf_sq (R : Rel K ι h H) (r : RD K ι h.length H d v) (e : seqOf h d = some ds) : ∃ a vs, v = .ref a ∧ (SqL K H a vs ∨ SqT K H a vs) ∧ RDs K ι h.length H ds vs := by
  cases d with
  | tup es =>
    cases e
    obtain ⟨a, vs, e, q, r⟩ := RD.tup.mp r
    exact ⟨a, vs, e, .inr q, r⟩
  | rol es =>
    cases e
    obtain ⟨a, vs, e, q, r⟩ := RD.rol.mp r
    exact ⟨a, vs, e, .inl q.sq, r⟩
  | ref i =>
    have e' : listOf h (.ref i) = some ds := e
    obtain ⟨a, vs, e1, q, r⟩ := listOf_sq R r e'
    exact ⟨a, vs, e1, .inl q, r⟩
  | _ => cases e
theorem RDs.ints : ∀ {ns : List Int} {vs : List V} {n : Nat}, RDs K ι n H (ns.map D.int) vs → vs = ns.map V.int
  | [], vs, n, r => RDs.nil.mp r
  | k :: ns, vs, n, r => by
    obtain ⟨v, r', rfl, h1, h2⟩ := RDs.cons.mp r
    rw [RD.int.mp h1, RDs.ints h2]; rfl
theorem RDs.of_ints : ∀ {ns : List Int} {n : Nat}, RDs K ι n H (ns.map D.int) (ns.map V.int)
  | [], n => RDs.nil'
  | k :: ns, n => RDs.cons' (RD.int.mpr rfl) RDs.of_ints
theorem RDs.bls : ∀ {ns : List Bool} {vs : List V} {n : Nat}, RDs K ι n H (ns.map D.bl) vs → vs = ns.map V.bl
  | [], vs, n, r => RDs.nil.mp r
  | k :: ns, vs, n, r => by
    obtain ⟨v, r', rfl, h1, h2⟩ := RDs.cons.mp r
    rw [RD.bl.mp h1, RDs.bls h2]; rfl
theorem RDs.strs : ∀ {ns : List Str} {vs : List V} {n : Nat}, RDs K ι n H (ns.map D.str) vs → vs = ns.map V.str
  | [], vs, n, r => RDs.nil.mp r
  | k :: ns, vs, n, r => by
    obtain ⟨v, r', rfl, h1, h2⟩ := RDs.cons.mp r
    rw [RD.str.mp h1, RDs.strs h2]; rfl
theorem RDs.of_strs : ∀ {ns : List Str} {n : Nat}, RDs K ι n H (ns.map D.str) (ns.map V.str)
  | [], n => RDs.nil'
  | k :: ns, n => RDs.cons' (RD.str.mpr rfl) RDs.of_strs
theorem RDs.atI {n : Nat} {vs : List V} (r : RDs K ι n H ds vs) {i : Int} {d : D} (e : L2.atI ds i = some d) : ∃ v, L2.atI vs i = some v ∧ RD K ι n H d v := by
  unfold L2.atI at e ⊢
  rw [← r.length]
  cases q : L2.ixN ds.length i with
  | none => rw [q] at e; cases e
  | some j =>
    rw [q] at e
    exact r.get e
theorem RDs.cut_ {n : Nat} {vs : List V} (r : RDs K ι n H ds vs) (lo hi : Option Int) : RDs K ι n H ((ds.drop (HT.sIx ds.length 0 lo)).take (HT.sIx ds.length ds.length hi - HT.sIx ds.length 0 lo)) (cutV vs lo hi) := by
  unfold cutV
  rw [← r.length]
  exact (r.drop _).take _
end
/-- the ints of a row -/
def intsOf : List D → Option (List Int)
  | [] => some []
  | .int i :: r => (intsOf r).map (i :: ·)
  | _ => none
theorem intsOf_eq : ∀ {ds : List D} {ns : List Int}, intsOf ds = some ns → ds = ns.map D.int
  | [], ns, e => by cases e; rfl
  | .int i :: r, ns, e => by
    unfold intsOf at e
    cases q : intsOf r with
    | none => rw [q] at e; cases e
    | some ms =>
      rw [q] at e
      cases e
      rw [intsOf_eq q]; rfl
  | .non :: _, _, e => by cases e
  | .bl _ :: _, _, e => by cases e
  | .str _ :: _, _, e => by cases e
  | .ty _ :: _, _, e => by cases e
  | .tup _ :: _, _, e => by cases e
  | .rol _ :: _, _, e => by cases e
  | .kt _ :: _, _, e => by cases e
  | .ref _ :: _, _, e => by cases e
@[simp] theorem intsOf_map : ∀ ns : List Int, intsOf (ns.map D.int) = some ns
  | [] => rfl
  | k :: ns => by
    show (intsOf (ns.map D.int)).map (k :: ·) = _
    rw [intsOf_map ns]; rfl
def blsOf : List D → Option (List Bool)
  | [] => some []
  | .bl i :: r => (blsOf r).map (i :: ·)
  | _ => none
theorem blsOf_eq : ∀ {ds : List D} {ns : List Bool}, blsOf ds = some ns → ds = ns.map D.bl
  | [], ns, e => by cases e; rfl
  | .bl i :: r, ns, e => by
    unfold blsOf at e
    cases q : blsOf r with
    | none => rw [q] at e; cases e
    | some ms =>
      rw [q] at e
      cases e
      rw [blsOf_eq q]; rfl
  | .non :: _, _, e => by cases e
  | .int _ :: _, _, e => by cases e
  | .str _ :: _, _, e => by cases e
  | .ty _ :: _, _, e => by cases e
  | .tup _ :: _, _, e => by cases e
  | .rol _ :: _, _, e => by cases e
  | .kt _ :: _, _, e => by cases e
  | .ref _ :: _, _, e => by cases e
@[simp] theorem blsOf_map : ∀ ns : List Bool, blsOf (ns.map D.bl) = some ns
  | [] => rfl
  | k :: ns => by
    show (blsOf (ns.map D.bl)).map (k :: ·) = _
    rw [blsOf_map ns]; rfl
def strsOf : List D → Option (List Str)
  | [] => some []
  | .str i :: r => (strsOf r).map (i :: ·)
  | _ => none
theorem strsOf_eq : ∀ {ds : List D} {ns : List Str}, strsOf ds = some ns → ds = ns.map D.str
  | [], ns, e => by cases e; rfl
  | .str i :: r, ns, e => by
    unfold strsOf at e
    cases q : strsOf r with
    | none => rw [q] at e; cases e
    | some ms =>
      rw [q] at e
      cases e
      rw [strsOf_eq q]; rfl
  | .non :: _, _, e => by cases e
  | .int _ :: _, _, e => by cases e
  | .bl _ :: _, _, e => by cases e
  | .ty _ :: _, _, e => by cases e
  | .tup _ :: _, _, e => by cases e
  | .rol _ :: _, _, e => by cases e
  | .kt _ :: _, _, e => by cases e
  | .ref _ :: _, _, e => by cases e
@[simp] theorem strsOf_map : ∀ ns : List Str, strsOf (ns.map D.str) = some ns
  | [] => rfl
  | k :: ns => by
    show (strsOf (ns.map D.str)).map (k :: ·) = _
    rw [strsOf_map ns]; rfl

/-! ### + - * // % ** -/
def RepOk (n : Nat) (k : Int) : Prop := -(2 ^ 63) ≤ k ∧ k < 2 ^ 63 ∧ n * k.toNat ≤ sizeLine
noncomputable instance {n : Nat} {k : Int} : Decidable (RepOk n k) := Classical.propDecidable _
def DivOk (j : Int) : Prop := 0 < j ∧ j.natAbs.log2 < 9000
noncomputable instance {j : Int} : Decidable (DivOk j) := Classical.propDecidable _
def PowOk (i j : Int) : Prop := 0 ≤ j ∧ j ≤ 1000000 ∧ i.natAbs < 2 ^ 64
noncomputable instance {i j : Int} : Decidable (PowOk i j) := Classical.propDecidable _
noncomputable def oAdd (a b : D) (h : AH) : ER := match a, b with
  | .int i, .int j => .ok (.int (i + j)) h
  | .str x, .str y => if Fits (x.length + y.length) then .ok (.str (x ++ y)) h else .stuck
  | .tup xs, .tup ys => if Fits (xs.length + ys.length) then .ok (.tup (xs ++ ys)) h else .stuck
  | .ref i, .ref j => (match h[i]?, h[j]? with
    | some (.lst xs), some (.lst ys) => if Fits (xs.length + ys.length) then .ok (.ref h.length) (h ++ [.lst (xs ++ ys)]) else .stuck
    | _, _ => .stuck)
  | _, _ => .stuck
def oSub (a b : D) (h : AH) : ER := match a, b with
  | .int i, .int j => .ok (.int (i - j)) h
  | _, _ => .stuck
noncomputable instance {i j : Int} : Decidable (CMulX i j) := Classical.propDecidable _
noncomputable def oMul (a b : D) (h : AH) : ER := match a, b with
  | .int i, .int j => if CMulX i j then .ok (.int (i * j)) h else .stuck
  | .ref i, .int k => (match h[i]? with
    | some (.lst xs) => if RepOk xs.length k then .ok (.ref h.length) (h ++ [.lst (List.replicate k.toNat xs).flatten]) else .stuck
    | _ => .stuck)
  | _, _ => .stuck
noncomputable def oDiv (a b : D) (h : AH) : ER := match a, b with
  | .int i, .int j => if DivOk j then .ok (.int (i / j)) h else .stuck
  | _, _ => .stuck
def oMod (a b : D) (h : AH) : ER := match a, b with
  | .int i, .int j => if 0 < j then .ok (.int (i % j)) h else .stuck
  | _, _ => .stuck
noncomputable def oPow (a b : D) (h : AH) : ER := match a, b with
  | .int i, .int j => if PowOk i j then .ok (.int (i ^ j.toNat)) h else .stuck
  | _, _ => .stuck
def oNeg (a : D) (h : AH) : ER := match a with
  | .int i => .ok (.int (-i)) h
  | _ => .stuck
section
variable {C : Ct}
abbrev rAddAll (X : Cx) : R2 := fun x y H Q => (rI0 fun i j => V.int (i + j)) x y H Q ∨ (fun (x y : V) (H : Hp) (Q : VK) => ∃ i j, x = .str i ∧ y = .str j ∧ i.length + j.length ≤ sizeLine ∧ Q (.str (i ++ j)) H) x y H Q ∨ rCatA X.K x y H Q ∨ rCat x y H Q
theorem op_addAll {X : Cx} : OpR X (binaryOp .Add) (rAddAll X) := op_add.or (op_add_str.or (op_catA.or op_cat))
theorem os_add : OpS C (rAddAll C.X) oAdd := by
  intro ι h H σ x y d1 d2 Q R r1 r2 p
  unfold oAdd at p
  split at p
  · rename_i i j
    exact .inl ⟨i, j, RD.int.mp r1, RD.int.mp r2, p.here R (RD.int.mpr rfl)⟩
  · rename_i i j
    split at p
    · rename_i hl
      exact .inr (.inl ⟨i, j, RD.str.mp r1, RD.str.mp r2, hl, p.here R (RD.str.mpr rfl)⟩)
    · exact p.elim
  · rename_i xs ys
    split at p
    · rename_i hl
      change _ ≤ sizeLine at hl
      obtain ⟨a, us, rfl, s1, q1⟩ := RD.tup.mp r1
      obtain ⟨b, ws, rfl, s2, q2⟩ := RD.tup.mp r2
      have l1 := q1.length
      have l2 := q2.length
      refine .inr (.inr (.inl ⟨a, b, us, ws, rfl, rfl, s1, s2, by omega, fun e => ?_, fun _ e => ?_, fun _ _ a' ha => p.tup R (q1.append q2) ha⟩))
      · have e1 : xs = [] := List.eq_nil_of_length_eq_zero (by rw [l1, e]; rfl)
        subst e1
        exact p.here R r2
      · have e1 : ys = [] := List.eq_nil_of_length_eq_zero (by rw [l2, e]; rfl)
        subst e1
        rw [List.append_nil] at p
        exact p.here R r1
    · exact p.elim
  · rename_i i j
    split at p
    · rename_i xs ys e1 e2
      split at p
      · rename_i hl
        change _ ≤ sizeLine at hl
        obtain ⟨us, rfl, h1, q1⟩ := r1.list R e1
        obtain ⟨ws, rfl, h2, q2⟩ := r2.list R e2
        have l1 := q1.length
        have l2 := q2.length
        exact .inr (.inr (.inr ⟨_, _, us, ws, rfl, rfl, h1, h2, by omega, fun a ha => p.lst R (q1.append q2) ha⟩))
      · exact p.elim
    · exact p.elim
  · exact p.elim
theorem os_sub : OpS C (rI0 fun i j => .int (i - j)) oSub := by
  intro ι h H σ x y d1 d2 Q R r1 r2 p
  unfold oSub at p
  split at p
  · rename_i i j
    exact ⟨i, j, RD.int.mp r1, RD.int.mp r2, p.here R (RD.int.mpr rfl)⟩
  · exact p.elim
abbrev rMulAll : R2 := fun x y H Q => (rI CMulX fun i j => V.int (i * j)) x y H Q ∨ rRep x y H Q
theorem op_mulAll {X : Cx} : OpR X (binaryOp .Mult) rMulAll := op_mulX.or op_rep
theorem os_mul : OpS C rMulAll oMul := by
  intro ι h H σ x y d1 d2 Q R r1 r2 p
  unfold oMul at p
  split at p
  · rename_i i j
    split at p
    · rename_i hc
      exact .inl ⟨i, j, RD.int.mp r1, RD.int.mp r2, hc, p.here R (RD.int.mpr rfl)⟩
    · exact p.elim
  · rename_i i k
    split at p
    · rename_i xs e1
      split at p
      · rename_i hl
        obtain ⟨us, rfl, h1, q1⟩ := r1.list R e1
        have l1 := q1.length
        exact .inr ⟨_, k, us, rfl, RD.int.mp r2, h1, hl.1, hl.2.1, by rw [← l1]; exact hl.2.2, fun a ha => p.lst R (q1.rep _) ha⟩
      · exact p.elim
    · exact p.elim
  · exact p.elim
theorem os_div : OpS C (rI CDivW fun i j => .int (i / j)) oDiv := by
  intro ι h H σ x y d1 d2 Q R r1 r2 p
  unfold oDiv at p
  split at p
  · rename_i i j
    split at p
    · rename_i hc
      exact ⟨i, j, RD.int.mp r1, RD.int.mp r2, hc, p.here R (RD.int.mpr rfl)⟩
    · exact p.elim
  · exact p.elim
theorem os_mod : OpS C (rI (fun _ j => 0 < j) fun i j => .int (i % j)) oMod := by
  intro ι h H σ x y d1 d2 Q R r1 r2 p
  unfold oMod at p
  split at p
  · rename_i i j
    split at p
    · rename_i hc
      exact ⟨i, j, RD.int.mp r1, RD.int.mp r2, hc, p.here R (RD.int.mpr rfl)⟩
    · exact p.elim
  · exact p.elim
theorem os_pow : OpS C (rI CPow fun i j => .int (i ^ j.toNat)) oPow := by
  intro ι h H σ x y d1 d2 Q R r1 r2 p
  unfold oPow at p
  split at p
  · rename_i i j
    split at p
    · rename_i hc
      exact ⟨i, j, RD.int.mp r1, RD.int.mp r2, hc, p.here R (RD.int.mpr rfl)⟩
    · exact p.elim
  · exact p.elim
theorem us_neg : UnS C (rU fun i => .int (-i)) oNeg := by
  intro ι h H σ x d Q R r p
  unfold oNeg at p
  split at p
  · rename_i i
    exact ⟨i, RD.int.mp r, p.here R (RD.int.mpr rfl)⟩
  · exact p.elim

/-! ### truth -/
noncomputable def oTruth (d : D) (h : AH) : ER := match d with
  | .non => .ok (.bl false) h
  | .bl b => .ok (.bl b) h
  | .int i => .ok (.bl (i != 0)) h
  | .str x => if Fits (x.length) then .ok (.bl ((x.length : Int) != 0)) h else .stuck
  | .tup ds => .ok (.bl (!ds.isEmpty)) h
  | .rol ds => .ok (.bl (!ds.isEmpty)) h
  | .ref i => (match h[i]? with
    | some (.lst ds) => .ok (.bl (!ds.isEmpty)) h
    | some (.dK kvs) => .ok (.bl (!kvs.isEmpty)) h
    | _ => .stuck)
  | _ => .stuck
theorem isEmpty_len {α β : Type} {xs : List α} {ys : List β} (e : xs.length = ys.length) : xs.isEmpty = ys.isEmpty := by
  cases xs <;> cases ys <;> first | rfl | (simp at e)
theorem ts_truth : TruS C oTruth := by
  intro ι h H σ x d Q R r p
  have fin : ∀ {b : Bool}, PostT C ι h.length H σ (.ok (.bl b) h) Q → Q b H := fun {b} p => by
    obtain ⟨b', e, q⟩ := p
    cases e
    exact q ι H .refl R
  unfold oTruth at p
  split at p
  · exact ⟨_, by rw [RD.non.mp r]; exact rfl, fin p⟩
  · exact ⟨_, by rw [RD.bl.mp r]; exact rfl, fin p⟩
  · exact ⟨_, by rw [RD.int.mp r]; exact rfl, fin p⟩
  · split at p
    · rename_i hl
      exact ⟨_, by rw [RD.str.mp r]; exact ⟨hl, rfl⟩, fin p⟩
    · exact p.elim
  · obtain ⟨a, vs, rfl, q, rr⟩ := RD.tup.mp r
    exact ⟨_, .inr (.inl ⟨vs, q, by rw [isEmpty_len rr.length]⟩), fin p⟩
  · obtain ⟨a, vs, rfl, q, rr⟩ := RD.rol.mp r
    exact ⟨_, .inl ⟨vs, q.sq, by rw [isEmpty_len rr.length]⟩, fin p⟩
  · rename_i i
    split at p
    · rename_i ds e
      obtain ⟨vs, rfl, e1, rr⟩ := r.list R e
      exact ⟨_, .inl ⟨vs, SqL.of e1, by rw [isEmpty_len rr.length]⟩, fin p⟩
    · rename_i kvs e
      obtain ⟨_, rfl⟩ := RD.ref.mp r
      obtain ⟨ws, e1, k, rr⟩ := R.ob i _ e
      have : kvs.length = ws.length := by simpa using congrArg List.length k
      exact ⟨_, .inr (.inr ⟨ws, e1, by rw [isEmpty_len this]⟩), fin p⟩
    · exact p.elim
  · exact p.elim
end

/-! ### == -/
/-- data as the library's data, lists within looked up -/
def D.toP (h : AH) : Nat → D → Option PyData
  | _, .non => some .none
  | _, .bl b => some (.bool b)
  | _, .int i => some (.int i)
  | _, .str x => if PyData.strOk x then some (.str x) else none
  | k + 1, .tup ds => (ds.mapM (D.toP h k)).map .tuple
  | k + 1, .rol ds => (ds.mapM (D.toP h k)).map .list
  | k + 1, .kt ds => (ds.mapM (D.toP h k)).map .tuple
  | k + 1, .ref i => (match h[i]? with
    | some (.lst ds) => (ds.mapM (D.toP h k)).map .list
    | _ => none)
  | _, _ => none
theorem mapM_cons {α β : Type} {f : α → Option β} {a : α} {l : List α} {r : List β} (e : (a :: l).mapM f = some r) : ∃ b r', f a = some b ∧ l.mapM f = some r' ∧ r = b :: r' := by
  rw [List.mapM_cons] at e
  cases h1 : f a with
  | none => rw [h1] at e; cases e
  | some b =>
    rw [h1] at e
    cases h2 : l.mapM f with
    | none => rw [h2] at e; cases e
    | some r' => rw [h2] at e; cases e; exact ⟨b, r', rfl, rfl, rfl⟩
section
variable {K : PySem.W.Frag} {ι : Nat → Addr} {h : AH} {H : Hp}
theorem toP_dp (R : Rel K ι h H) : ∀ (k : Nat) (d : D) (v : V) (p : PyData), RD K ι h.length H d v → d.toP h k = some p → Dp K H v p ∧ p.canLay0 = true ∧ p.depth ≤ k := by
  have many : ∀ (k : Nat), (∀ (d : D) (v : V) (p : PyData), RD K ι h.length H d v → d.toP h k = some p → Dp K H v p ∧ p.canLay0 = true ∧ p.depth ≤ k) →
      ∀ (ds : List D) (vs : List V) (ps : List PyData), RDs K ι h.length H ds vs → ds.mapM (D.toP h k) = some ps → DpAll K H vs ps ∧ PyData.canLayAll0 ps = true ∧ PyData.depthAll ps ≤ k := by
    intro k ih ds
    induction ds with
    | nil =>
      intro vs ps r e
      rw [RDs.nil.mp r]
      rw [List.mapM_nil] at e
      cases e
      exact ⟨.nil, by simp [PyData.canLayAll0], by simp [PyData.depthAll]⟩
    | cons d ds ihd =>
      intro vs ps r e
      obtain ⟨v, r', rfl, h1, h2⟩ := RDs.cons.mp r
      obtain ⟨p, ps', e1, e2, rfl⟩ := mapM_cons e
      obtain ⟨a1, a2, a3⟩ := ih d v p h1 e1
      obtain ⟨b1, b2, b3⟩ := ihd r' ps' h2 e2
      exact ⟨.cons a1 b1, by simp [PyData.canLayAll0, a2, b2], by simp only [PyData.depthAll]; omega⟩
  intro k
  induction k with
  | zero =>
    intro d v p r e
    cases d with
    | non => cases e; rw [RD.non.mp r]; exact ⟨.non, by simp [PyData.canLay0], by simp [PyData.depth]⟩
    | bl b => cases e; rw [RD.bl.mp r]; exact ⟨.bl b, by simp [PyData.canLay0], by simp [PyData.depth]⟩
    | int b => cases e; rw [RD.int.mp r]; exact ⟨.int b, by simp [PyData.canLay0], by simp [PyData.depth]⟩
    | str b =>
      unfold D.toP at e
      split at e
      · rename_i ok
        cases e; rw [RD.str.mp r]; exact ⟨.str b, by simp [PyData.canLay0, ok], by simp [PyData.depth]⟩
      · cases e
    | _ => cases e
  | succ k ih =>
    intro d v p r e
    cases d with
    | non => cases e; rw [RD.non.mp r]; exact ⟨.non, by simp [PyData.canLay0], by simp [PyData.depth]⟩
    | bl b => cases e; rw [RD.bl.mp r]; exact ⟨.bl b, by simp [PyData.canLay0], by simp [PyData.depth]⟩
    | int b => cases e; rw [RD.int.mp r]; exact ⟨.int b, by simp [PyData.canLay0], by simp [PyData.depth]⟩
    | str b =>
      unfold D.toP at e
      split at e
      · rename_i ok
        cases e; rw [RD.str.mp r]; exact ⟨.str b, by simp [PyData.canLay0, ok], by simp [PyData.depth]⟩
      · cases e
    | ty n => cases e
    | tup ds =>
      unfold D.toP at e
      cases q : ds.mapM (D.toP h k) with
      | none => rw [q] at e; cases e
      | some ps =>
        rw [q] at e
        cases e
        obtain ⟨a, vs, rfl, s, rr⟩ := RD.tup.mp r
        obtain ⟨b1, b2, b3⟩ := many k ih ds vs ps rr q
        exact ⟨.tup s b1, by simpa [PyData.canLay0] using b2, by simp only [PyData.depth]; omega⟩
    | rol ds =>
      unfold D.toP at e
      cases q : ds.mapM (D.toP h k) with
      | none => rw [q] at e; cases e
      | some ps =>
        rw [q] at e
        cases e
        obtain ⟨a, vs, rfl, s, rr⟩ := RD.rol.mp r
        obtain ⟨b1, b2, b3⟩ := many k ih ds vs ps rr q
        exact ⟨.lst s.sq b1, by simpa [PyData.canLay0] using b2, by simp only [PyData.depth]; omega⟩
    | kt ds =>
      unfold D.toP at e
      cases q : ds.mapM (D.toP h k) with
      | none => rw [q] at e; cases e
      | some ps =>
        rw [q] at e
        cases e
        obtain ⟨a, vs, rfl, s, rr⟩ := RD.kt.mp r
        obtain ⟨b1, b2, b3⟩ := many k ih ds vs ps rr q
        exact ⟨.tup s.sq b1, by simpa [PyData.canLay0] using b2, by simp only [PyData.depth]; omega⟩
    | ref i =>
      unfold D.toP at e
      cases qi : h[i]? with
      | none => rw [qi] at e; cases e
      | some o =>
        rw [qi] at e
        cases o with
        | lst ds =>
          dsimp only at e
          cases q : ds.mapM (D.toP h k) with
          | none => rw [q] at e; cases e
          | some ps =>
            rw [q] at e
            cases e
            obtain ⟨vs, rfl, s, rr⟩ := r.list R qi
            obtain ⟨b1, b2, b3⟩ := many k ih ds vs ps rr q
            exact ⟨.lst (SqL.of s) b1, by simpa [PyData.canLay0] using b2, by simp only [PyData.depth]; omega⟩
        | _ => cases e
theorem toP_shaped {p : PyData} (h1 : p.canLay0 = true) (h2 : p.depth ≤ 20) : SeqAt.shaped p = true := by
  unfold SeqAt.shaped
  rw [h1, decide_eq_true (by omega : p.depth ≤ 64)]; rfl
end
def oEq (a b : D) (h : AH) : ER := match a.toP h 20, b.toP h 20 with
  | some p, some q => .ok (.bl (PyData.eqv p q)) h
  | _, _ => .stuck
def oNe (a b : D) (h : AH) : ER := match a.toP h 20, b.toP h 20 with
  | some p, some q => .ok (.bl (!PyData.eqv p q)) h
  | _, _ => .stuck
section
variable {C : Ct}
theorem os_eq : OpS C (rEqD C.X.K) oEq := by
  intro ι h H σ x y d1 d2 Q R r1 r2 p
  unfold oEq at p
  split at p
  · rename_i a b e1 e2
    obtain ⟨a1, a2, a3⟩ := toP_dp R _ _ _ _ r1 e1
    obtain ⟨b1, b2, b3⟩ := toP_dp R _ _ _ _ r2 e2
    exact ⟨a, b, a1, b1, toP_shaped a2 a3, toP_shaped b2 b3, p.here R (RD.bl.mpr rfl)⟩
  · exact p.elim
theorem os_ne : OpS C (rNeD C.X.K) oNe := by
  intro ι h H σ x y d1 d2 Q R r1 r2 p
  unfold oNe at p
  split at p
  · rename_i a b e1 e2
    obtain ⟨a1, a2, a3⟩ := toP_dp R _ _ _ _ r1 e1
    obtain ⟨b1, b2, b3⟩ := toP_dp R _ _ _ _ r2 e2
    exact ⟨a, b, a1, b1, toP_shaped a2 a3, toP_shaped b2 b3, p.here R (RD.bl.mpr rfl)⟩
  · exact p.elim
/-- x in l -/
def oIn (a b : D) (h : AH) : ER := match a.toP h 20, listOf h b, b.toP h 20 with
  | some p, some _, some (.list qs) => .ok (.bl (qs.any fun z => PyData.eqv z p)) h
  | _, _, _ => .stuck
def oNotIn (a b : D) (h : AH) : ER := match a.toP h 20, listOf h b, b.toP h 20 with
  | some p, some _, some (.list qs) => .ok (.bl (!qs.any fun z => PyData.eqv z p)) h
  | _, _, _ => .stuck
theorem os_in : OpS C (rInD C.X.K) oIn := by
  intro ι h H σ x y d1 d2 Q R r1 r2 p
  unfold oIn at p
  split at p
  · rename_i a l b e1 e3 e2
    obtain ⟨a1, a2, a3⟩ := toP_dp R _ _ _ _ r1 e1
    obtain ⟨b1, b2, b3⟩ := toP_dp R _ _ _ _ r2 e2
    exact ⟨a, b, a1, b1, toP_shaped a2 a3, toP_shaped b2 b3, p.here R (RD.bl.mpr rfl)⟩
  · exact p.elim
theorem os_notIn : OpS C (rNotInD C.X.K) oNotIn := by
  intro ι h H σ x y d1 d2 Q R r1 r2 p
  unfold oNotIn at p
  split at p
  · rename_i a l b e1 e3 e2
    obtain ⟨a1, a2, a3⟩ := toP_dp R _ _ _ _ r1 e1
    obtain ⟨b1, b2, b3⟩ := toP_dp R _ _ _ _ r2 e2
    exact ⟨a, b, a1, b1, toP_shaped a2 a3, toP_shaped b2 b3, p.here R (RD.bl.mpr rfl)⟩
  · exact p.elim

/-! ### < <= > >=, is None -/
def oLt (a b : D) (h : AH) : ER := match a, b with
  | .int i, .int j => .ok (.bl (decide (i < j))) h
  | .str x, .str y => .ok (.bl (decide (x.cps.toList < y.cps.toList))) h
  | .tup xs, .tup ys => (match intsOf xs, intsOf ys with
    | some ns, some ms => .ok (.bl (HT.lexLt ns ms)) h
    | _, _ => .stuck)
  | _, _ => .stuck
def oLe (a b : D) (h : AH) : ER := match a, b with
  | .int i, .int j => .ok (.bl (decide (i ≤ j))) h
  | .str x, .str y => .ok (.bl (!decide (y.cps.toList < x.cps.toList))) h
  | _, _ => .stuck
def oGt (a b : D) (h : AH) : ER := match a, b with
  | .int i, .int j => .ok (.bl (decide (j < i))) h
  | _, _ => .stuck
def oGe (a b : D) (h : AH) : ER := match a, b with
  | .int i, .int j => .ok (.bl (decide (j ≤ i))) h
  | _, _ => .stuck
abbrev rLtAll (X : Cx) : R2 := fun x y H Q => (rI0 fun i j => V.bl (decide (i < j))) x y H Q ∨ (fun (x y : V) (H : Hp) (Q : VK) => ∃ i j, x = .str i ∧ y = .str j ∧ Q (.bl (decide (i.cps.toList < j.cps.toList))) H) x y H Q ∨ rLtT X.K x y H Q
theorem op_ltAll {X : Cx} (hu : X.A.units < cLine) : OpR X (compareOp .Lt) (rLtAll X) := op_lt.or (op_lt_str.or (op_ltT hu))
theorem os_lt : OpS C (rLtAll C.X) oLt := by
  intro ι h H σ x y d1 d2 Q R r1 r2 p
  unfold oLt at p
  split at p
  · rename_i i j
    exact .inl ⟨i, j, RD.int.mp r1, RD.int.mp r2, p.here R (RD.bl.mpr rfl)⟩
  · rename_i i j
    exact .inr (.inl ⟨i, j, RD.str.mp r1, RD.str.mp r2, p.here R (RD.bl.mpr rfl)⟩)
  · rename_i xs ys
    split at p
    · rename_i ns ms e1 e2
      obtain ⟨a, us, rfl, s1, q1⟩ := RD.tup.mp r1
      obtain ⟨b, ws, rfl, s2, q2⟩ := RD.tup.mp r2
      rw [intsOf_eq e1] at q1
      rw [intsOf_eq e2] at q2
      rw [q1.ints] at s1
      rw [q2.ints] at s2
      exact .inr (.inr ⟨a, b, ns, ms, rfl, rfl, s1, s2, p.here R (RD.bl.mpr rfl)⟩)
    · exact p.elim
  · exact p.elim
abbrev rLeAll : R2 := fun x y H Q => (rI0 fun i j => V.bl (decide (i ≤ j))) x y H Q ∨ (fun (x y : V) (H : Hp) (Q : VK) => ∃ i j, x = .str i ∧ y = .str j ∧ Q (.bl (!decide (j.cps.toList < i.cps.toList))) H) x y H Q
theorem op_leAll {X : Cx} : OpR X (compareOp .LtE) rLeAll := op_le.or op_le_str
theorem os_le : OpS C rLeAll oLe := by
  intro ι h H σ x y d1 d2 Q R r1 r2 p
  unfold oLe at p
  split at p
  · rename_i i j
    exact .inl ⟨i, j, RD.int.mp r1, RD.int.mp r2, p.here R (RD.bl.mpr rfl)⟩
  · rename_i i j
    exact .inr ⟨i, j, RD.str.mp r1, RD.str.mp r2, p.here R (RD.bl.mpr rfl)⟩
  · exact p.elim
theorem os_gt : OpS C (rI0 fun i j => .bl (decide (j < i))) oGt := by
  intro ι h H σ x y d1 d2 Q R r1 r2 p
  unfold oGt at p
  split at p
  · rename_i i j
    exact ⟨i, j, RD.int.mp r1, RD.int.mp r2, p.here R (RD.bl.mpr rfl)⟩
  · exact p.elim
theorem os_ge : OpS C (rI0 fun i j => .bl (decide (j ≤ i))) oGe := by
  intro ι h H σ x y d1 d2 Q R r1 r2 p
  unfold oGe at p
  split at p
  · rename_i i j
    exact ⟨i, j, RD.int.mp r1, RD.int.mp r2, p.here R (RD.bl.mpr rfl)⟩
  · exact p.elim
def D.isNon : D → Bool
  | .non => true
  | _ => false
theorem RD.isNon {K : PySem.W.Frag} {ι : Nat → Addr} {n : Nat} {H : Hp} {d : D} {v : V} (r : RD K ι n H d v) : decide (v = .non) = d.isNon := by
  cases d with
  | non => rw [RD.non.mp r]; rfl
  | bl b => rw [RD.bl.mp r]; rfl
  | int b => rw [RD.int.mp r]; rfl
  | str b => rw [RD.str.mp r]; rfl
  | ty b => rw [RD.ty.mp r]; rfl
  | tup b => obtain ⟨a, vs, rfl, _⟩ := RD.tup.mp r; rfl
  | rol b => obtain ⟨a, vs, rfl, _⟩ := RD.rol.mp r; rfl
  | kt b => obtain ⟨a, vs, rfl, _⟩ := RD.kt.mp r; rfl
  | ref b => obtain ⟨_, rfl⟩ := RD.ref.mp r; rfl
def oIs (a b : D) (h : AH) : ER := match b with
  | .non => .ok (.bl a.isNon) h
  | _ => .stuck
def oIsNot (a b : D) (h : AH) : ER := match b with
  | .non => .ok (.bl (!a.isNon)) h
  | _ => .stuck
theorem os_is : OpS C (fun x y H Q => y = .non ∧ Q (.bl (decide (x = .non))) H) oIs := by
  intro ι h H σ x y d1 d2 Q R r1 r2 p
  unfold oIs at p
  split at p
  · exact ⟨RD.non.mp r2, p.here R (RD.bl.mpr (by rw [r1.isNon]))⟩
  · exact p.elim
theorem os_isNot : OpS C (fun x y H Q => y = .non ∧ Q (.bl (!decide (x = .non))) H) oIsNot := by
  intro ι h H σ x y d1 d2 Q R r1 r2 p
  unfold oIsNot at p
  split at p
  · exact ⟨RD.non.mp r2, p.here R (RD.bl.mpr (by rw [r1.isNon]))⟩
  · exact p.elim

/-! ### items, slices -/
noncomputable def oIx (a b : D) (h : AH) : ER := match b with
  | .int i => (match a with
    | .str z => if Fits (z.length) then (match L2.atI z.cps.toList i with
      | some c => .ok (.str ⟨#[c]⟩) h
      | none => .stuck) else .stuck
    | a => (match seqOf h a with
      | some ds => (match L2.atI ds i with
        | some d => .ok d h
        | none => .stuck)
      | none => .stuck))
  | _ => .stuck
theorem os_ix : OpS C (rIx C.X.K) oIx := by
  intro ι h H σ x y d1 d2 Q R r1 r2 p
  unfold oIx at p
  split at p
  · rename_i i
    cases RD.int.mp r2
    split at p
    · rename_i z
      cases RD.str.mp r1
      split at p
      · rename_i hl
        split at p
        · rename_i c e
          exact .inr (.inr ⟨z, i, c, rfl, rfl, hl, e, p.here R (RD.str.mpr rfl)⟩)
        · exact p.elim
      · exact p.elim
    · split at p
      · rename_i ds e
        split at p
        · rename_i d e2
          obtain ⟨a, vs, rfl, s, rr⟩ := seqOf_sq R r1 e
          obtain ⟨v, e3, r3⟩ := rr.atI e2
          have q := p.here R r3
          rcases s with s | s
          · exact .inl ⟨a, vs, i, v, rfl, rfl, s, e3, q⟩
          · exact .inr (.inl ⟨a, vs, i, v, rfl, rfl, s, e3, q⟩)
        · exact p.elim
      · exact p.elim
  · exact p.elim
theorem me_ix {a b : Expr} {ma mb : EM} {pos : Pos} {r : R2} {g : D → D → AH → ER} (hr : IxR C.X r) (hs : OpS C r g) (ha : ME C a ma) (hb : ME C b mb) (hp : PlainIx b := by exact fun _ _ => rfl) : ME C (.Subscript a b pos) (eOp g ma mb) := by
  obtain ⟨ta, pa, sa⟩ := ha
  obtain ⟨tb, pb, sb⟩ := hb
  exact ⟨_, pe_ix hr pa pb hp, sa.op sb hs⟩
/-- a part of a slice -/
def MO (C : Ct) (e : Option Expr) (m : Option EM) : Prop := match m with
  | none => e = none
  | some m => ∃ a, e = some a ∧ ME C a m
def cutD (ds : List D) (lo hi : Option Int) : List D := (ds.drop (HT.sIx ds.length 0 lo)).take (HT.sIx ds.length ds.length hi - HT.sIx ds.length 0 lo)
noncomputable def oSl (a : D) (lo hi : Option Int) (h : AH) : ER := match a with
  | .str z => if Fits (z.length) then .ok (.str (cutS z lo hi)) h else .stuck
  | .tup ds => .ok (.tup (cutD ds lo hi)) h
  | a => (match listOf h a with
    | some ds => .ok (.ref h.length) (h ++ [.lst (cutD ds lo hi)])
    | none => .stuck)
def ePart (m : Option EM) (env : AE) (h : AH) (f : Option Int → AH → ER) : ER := match m with
  | none => f none h
  | some m => (m env h).then fun d h1 => match d with
    | .int i => f (some i) h1
    | _ => .stuck
noncomputable def eSl (a : EM) (lo hi : Option EM) : EM := fun env h => (a env h).then fun d h1 => ePart lo env h1 fun l h2 => ePart hi env h2 fun u h3 => oSl d l u h3
theorem MO.po {e : Option Expr} {m : Option EM} (hm : MO C e m) : ∃ t, PO C.X e t ∧ ∀ (env : AE) (h : AH) (σ : List (Option V)) (H : Hp) (ι : Nat → Addr) (f : Option Int → AH → ER) (Q : VK) (Q' : Option Int → Hp → Prop), Rel C.X.K ι h H → RV C ι h.length H env σ → PostE C ι h.length H σ (ePart m env h f) Q →
    (∀ i h' ι' H', Ext ι h.length H ι' h'.length H' → Rel C.X.K ι' h' H' → RV C ι' h'.length H' env σ → PostE C ι' h'.length H' σ (f i h') Q → Q' i H') → t σ H Q' := by
  cases m with
  | none =>
    have e' : e = none := hm
    subst e'
    exact ⟨_, po_none, fun env h σ H ι f Q Q' R V p k => k none h ι H .refl R V p⟩
  | some m =>
    obtain ⟨a, rfl, ta, pa, sa⟩ := hm
    refine ⟨_, po_some pa, fun env h σ H ι f Q Q' R V p k => ?_⟩
    refine sa.then R V p fun d h1 ι1 H1 v x1 R1 V1 r1 p1 => ?_
    cases d with
    | int i => exact ⟨i, RD.int.mp r1, k (some i) h1 ι1 H1 x1 R1 V1 p1⟩
    | _ => exact (show False from p1).elim
theorem me_slice {a : Expr} {lo hi : Option Expr} {ma : EM} {ml mh : Option EM} {p2 pos : Pos} (ha : ME C a ma) (hl : MO C lo ml) (hh : MO C hi mh) : ME C (.Subscript a (.Slice lo hi none p2) pos) (eSl ma ml mh) := by
  obtain ⟨ta, pa, sa⟩ := ha
  obtain ⟨tl, pl, sl⟩ := hl.po
  obtain ⟨th, ph, sh⟩ := hh.po
  refine ⟨_, pe_slice (sl_list.or (sl_tupA.or sl_str)) pa pl ph, ⟨fun env h σ H ι Q R V p => ?_⟩⟩
  refine sa.then R V p fun d h1 ι1 H1 v x1 R1 V1 r1 p1 => ?_
  refine sl env h1 σ H1 ι1 _ Q _ R1 V1 p1 fun l h2 ι2 H2 x2 R2 V2 p2 => ?_
  refine sh env h2 σ H2 ι2 _ Q _ R2 V2 p2 fun u h3 ι3 H3 x3 R3 V3 p3 => ?_
  have r3 := r1.mono ((x2.trans x3).grow R1)
  unfold oSl at p3
  split at p3
  · rename_i z
    split at p3
    · rename_i hz
      exact .inr (.inr ⟨z, RD.str.mp r3, hz, p3.here R3 (RD.str.mpr rfl)⟩)
    · exact p3.elim
  · rename_i ds
    obtain ⟨b, vs, rfl, s, rr⟩ := RD.tup.mp r3
    refine .inr (.inl ⟨b, vs, rfl, s, fun e => ?_, fun _ a' ha => p3.tup R3 (rr.cut_ l u) ha⟩)
    have e1 : cutD ds l u = ds := by
      unfold cutD
      rw [rr.length, e.1, e.2]
      simp only [List.drop_zero, Nat.sub_zero]
      rw [← rr.length]
      exact List.take_length
    rw [e1] at p3
    exact p3.here R3 r3
  · split at p3
    · rename_i ds e
      obtain ⟨b, vs, rfl, s, rr⟩ := listOf_sq R3 r3 e
      exact .inl ⟨b, vs, rfl, s, fun a' ha => p3.lst R3 (rr.cut_ l u) ha⟩
    · exact p3.elim
end
end Rf

set_option maxHeartbeats 1000000
namespace Rf
open PySem PySem.Spec PyProof.Rows L2

/-! ### what is walked -/
def RgB (j : Int) : Prop := -(2 ^ 62) ≤ j ∧ j < 2 ^ 62
noncomputable instance {j : Int} : Decidable (RgB j) := Classical.propDecidable _
def RgB2 (i j : Int) : Prop := -(2 ^ 62) ≤ i ∧ i < 2 ^ 62 ∧ -(2 ^ 62) ≤ j ∧ j < 2 ^ 62
noncomputable instance {i j : Int} : Decidable (RgB2 i j) := Classical.propDecidable _
/-- a row that stands still -/
def stat (ds : List D) : AIt := ⟨ds.length, fun i _ => some ds[i]?⟩
/-- the list number r, as it stands -/
def live (r n : Nat) : AIt := ⟨n, fun i h => match h[r]? with
  | some (.lst ds) => some ds[i]?
  | _ => none⟩
def signs (x : Str) : List D := x.cps.toList.map fun c => .str ⟨#[c]⟩
def iVal (m : EM) : IM := fun e h => match m e h with
  | .ok (.tup ds) h1 => .ok (stat ds) h1
  | .ok (.rol ds) h1 => .ok (stat ds) h1
  | .ok (.str x) h1 => .ok (stat (signs x)) h1
  | .ok (.ref r) h1 => (match h1[r]? with
    | some (.lst ds) => .ok (live r ds.length) h1
    | _ => .stuck)
  | .ok _ _ => .stuck
  | .exc c fs h1 => .exc c fs h1
  | .stuck => .stuck
/-- lo, lo + 1, .. (n of them) -/
def rg (lo : Int) (n : Nat) : List D := (List.range n).map fun i => .int (lo + (i : Nat))
noncomputable def iRange1 (l : LM) : IM := fun e h => match l e h with
  | .ok [.int j] h1 => if RgB j then .ok (stat (rg 0 j.toNat)) h1 else .stuck
  | .ok _ _ => .stuck
  | .exc c fs h1 => .exc c fs h1
  | .stuck => .stuck
noncomputable def iRange2 (l : LM) : IM := fun e h => match l e h with
  | .ok [.int i, .int j] h1 => if RgB2 i j then .ok (stat (rg i (j - i).toNat)) h1 else .stuck
  | .ok _ _ => .stuck
  | .exc c fs h1 => .exc c fs h1
  | .stuck => .stuck
/-- reversed(range(..)) -/
noncomputable def iRevRange1 (l : LM) : IM := fun e h => match l e h with
  | .ok [.int j] h1 => if RgB j then .ok (stat (rg 0 j.toNat).reverse) h1 else .stuck
  | .ok _ _ => .stuck
  | .exc c fs h1 => .exc c fs h1
  | .stuck => .stuck
section
variable {K : PySem.W.Frag} {ι : Nat → Addr} {n : Nat} {h : AH} {H : Hp} {ds : List D} {vs : List V} {a : Addr}
theorem itr_stat {J : It} (k : ∀ i ι' h' H', Ext ι n H ι' h'.length H' → Rel K ι' h' H' → (ds[i]? = none → J.stop i H') ∧ ∀ d, ds[i]? = some d → J.go i H' ∧ ∀ x H2, J.yld i H' x H2 → ∃ ι2, Ext ι' h'.length H' ι2 h'.length H2 ∧ Rel K ι2 h' H2 ∧ RD K ι2 h'.length H2 d x) : ItR K J (stat ds) ι n H := by
  intro i ι' h' H' x R
  obtain ⟨k1, k2⟩ := k i ι' h' H' x R
  exact ⟨fun e => k1 (by simpa [stat] using e), fun d e => k2 d (by simpa [stat] using e)⟩
theorem itr_tup (R0 : Rel K ι h H) (q : SqT K H a vs) (r : RDs K ι h.length H ds vs) : ItR K (Itt K a) (stat ds) ι h.length H := by
  refine itr_stat fun i ι' h' H' x R => ⟨fun e => ⟨vs, R0.sqT x q, by rw [← r.length]; exact List.getElem?_eq_none_iff.mp e⟩, fun d e => ?_⟩
  obtain ⟨v, ev, rv⟩ := r.get e
  refine ⟨⟨vs, v, R0.sqT x q, ev⟩, fun y H2 hy => ?_⟩
  obtain ⟨rfl, hy⟩ := hy
  have e2 := hy vs (R0.sqT x q)
  rw [ev] at e2; cases e2
  exact ⟨ι', .refl, R, rv.mono (x.grow R0)⟩
theorem itr_rol (R0 : Rel K ι h H) (q : RoL K H a vs) (r : RDs K ι h.length H ds vs) : ItR K (Itl K a) (stat ds) ι h.length H := by
  refine itr_stat fun i ι' h' H' x R => ⟨fun e => ⟨vs, (R0.roL x q).sq, by rw [← r.length]; exact List.getElem?_eq_none_iff.mp e⟩, fun d e => ?_⟩
  obtain ⟨v, ev, rv⟩ := r.get e
  refine ⟨⟨vs, v, (R0.roL x q).sq, ev⟩, fun y H2 hy => ?_⟩
  obtain ⟨rfl, hy⟩ := hy
  have e2 := hy vs (R0.roL x q).sq
  rw [ev] at e2; cases e2
  exact ⟨ι', .refl, R, rv.mono (x.grow R0)⟩
theorem itr_live {r m : Nat} (hr : r < n) : ItR K (Itl K (ι r)) (live r m) ι n H := by
  intro i ι' h' H' x R
  have eι := x.ag r hr
  unfold live
  dsimp only
  cases q : h'[r]? with
  | none => exact ⟨(fun z => nomatch z), (fun d z => nomatch z)⟩
  | some o =>
    cases o with
    | lst ds =>
      obtain ⟨vs, e1, rr⟩ := R.ob r _ q
      rw [eι] at e1
      refine ⟨fun e => ⟨vs, SqL.of e1, by rw [← rr.length]; exact List.getElem?_eq_none_iff.mp (Option.some.inj e)⟩, fun d e => ?_⟩
      obtain ⟨v, ev, rv⟩ := rr.get (Option.some.inj e)
      refine ⟨⟨vs, v, SqL.of e1, ev⟩, fun y H2 hy => ?_⟩
      obtain ⟨rfl, hy⟩ := hy
      have e2 := hy vs (SqL.of e1)
      rw [ev] at e2; cases e2
      exact ⟨ι', .refl, R, rv⟩
    | dK _ => exact ⟨(fun z => nomatch z), (fun d z => nomatch z)⟩
    | dT _ => exact ⟨(fun z => nomatch z), (fun d z => nomatch z)⟩
    | lk _ _ _ => exact ⟨(fun z => nomatch z), (fun d z => nomatch z)⟩
theorem itr_str {x : Str} : ItR K (Its x) (stat (signs x)) ι n H := by
  refine itr_stat fun i ι' h' H' y R => ?_
  unfold signs
  rw [List.getElem?_map, Array.getElem?_toList]
  refine ⟨fun e => ?_, fun d e => ?_⟩
  · cases q : x.cps[i]? with
    | none => exact Array.getElem?_eq_none_iff.mp q
    | some c => rw [q] at e; cases e
  · cases q : x.cps[i]? with
    | none => rw [q] at e; cases e
    | some c =>
      rw [q] at e
      cases e
      refine ⟨(Array.getElem?_eq_some_iff.mp q).1, fun z H2 hz => ?_⟩
      obtain ⟨rfl, c', ec, rfl⟩ := hz
      rw [q] at ec; cases ec
      exact ⟨ι', .refl, R, RD.str.mpr rfl⟩
theorem rg_get {lo : Int} {n i : Nat} : (rg lo n)[i]? = if i < n then some (.int (lo + (i : Nat))) else none := by
  unfold rg
  rw [List.getElem?_map]
  by_cases hi : i < n
  · rw [if_pos hi, List.getElem?_range hi]; rfl
  · rw [if_neg hi, List.getElem?_eq_none (by simpa using hi)]; rfl
theorem itr_range {lo : Int} {m : Nat} : ItR K (Itr lo m) (stat (rg lo m)) ι n H := by
  refine itr_stat fun i ι' h' H' y R => ?_
  rw [rg_get]
  by_cases hi : i < m
  · rw [if_pos hi]
    refine ⟨(fun z => nomatch z), fun d e => ?_⟩
    cases e
    refine ⟨hi, fun z H2 hz => ?_⟩
    obtain ⟨rfl, rfl⟩ := hz
    exact ⟨ι', .refl, R, RD.int.mpr rfl⟩
  · rw [if_neg hi]
    exact ⟨fun _ => Nat.not_lt.mp hi, (fun d z => nomatch z)⟩
theorem rg_length {lo : Int} {n : Nat} : (rg lo n).length = n := by unfold rg; simp
theorem itr_revRange {m : Nat} : ItR K (Itc ((m : Int) - 1) (-1) m) (stat (rg 0 m).reverse) ι n H := by
  refine itr_stat fun i ι' h' H' y R => ?_
  by_cases hi : i < m
  · rw [List.getElem?_reverse (by rw [rg_length]; exact hi), rg_length, rg_get, if_pos (by omega)]
    refine ⟨(fun z => nomatch z), fun d e => ?_⟩
    cases e
    refine ⟨hi, fun z H2 hz => ?_⟩
    obtain ⟨rfl, rfl⟩ := hz
    exact ⟨ι', .refl, R, RD.int.mpr (by congr 1; omega)⟩
  · rw [List.getElem?_eq_none (by rw [List.length_reverse, rg_length]; exact Nat.not_lt.mp hi)]
    exact ⟨fun _ => Nat.not_lt.mp hi, (fun d z => nomatch z)⟩
end
theorem PI.or {X : Cx} {tg e : Expr} {t u : TI} (h1 : PI X tg e t) (h2 : PI X tg e u) : PI X tg e (fun σ H R => t σ H R ∨ u σ H R) :=
  ⟨fun pins s σ H R I q => q.elim (h1.run pins s σ H R I) (h2.run pins s σ H R I)⟩
section
variable {C : Ct} {tg a b : Expr} {m : EM} {ml : LM} {p pos : Pos}
theorem PostI.here {ι : Nat → Addr} {n : Nat} {h' : AH} {H H' : Hp} {σ : List (Option V)} {it : AIt} {Q : It → Hp → Prop} {J : It} {ι' : Nat → Addr} (p : PostI C ι n H σ (.ok it h') Q) (x : Ext ι n H ι' h'.length H') (R : Rel C.X.K ι' h' H') (j : ItR C.X.K J it ι' h'.length H') : Q J H' := p ι' H' J x R j
theorem mi_val (ha : ME C a m) : MI C tg a (iVal m) := by
  obtain ⟨t, pa, sa⟩ := ha
  refine ⟨_, PI.or (pi_list pa) (PI.or (pi_tup pa) (pi_str pa)), ⟨fun env h σ H ι Q R V p => ?_⟩⟩
  unfold iVal at p
  cases hm : m env h with
  | exc c fs h1 =>
    rw [hm] at p
    exact .inl (sa.run env h σ H ι _ R V (by rw [hm]; exact p))
  | stuck => rw [hm] at p; exact p.elim
  | ok d h1 =>
    rw [hm] at p
    have ru : ∀ {Q' : VK}, (∀ ι' H' v, Ext ι h.length H ι' h1.length H' → Rel C.X.K ι' h1 H' → RD C.X.K ι' h1.length H' d v → Q' v H') → t σ H Q' := fun {Q'} k => sa.run env h σ H ι _ R V (by rw [hm]; exact k)
    cases d with
    | tup ds =>
      refine .inr (.inl (ru fun ι' H' v x R' r => ?_))
      obtain ⟨a, vs, rfl, s, rr⟩ := RD.tup.mp r
      exact ⟨a, rfl, ⟨vs, s⟩, p.here x R' (itr_tup R' s rr)⟩
    | rol ds =>
      refine .inl (ru fun ι' H' v x R' r => ?_)
      obtain ⟨a, vs, rfl, s, rr⟩ := RD.rol.mp r
      exact ⟨a, rfl, ⟨vs, s.sq⟩, p.here x R' (itr_rol R' s rr)⟩
    | str z =>
      refine .inr (.inr (ru fun ι' H' v x R' r => ?_))
      exact ⟨z, RD.str.mp r, p.here x R' itr_str⟩
    | ref r0 =>
      dsimp only at p
      cases q : h1[r0]? with
      | none => rw [q] at p; exact p.elim
      | some o =>
        rw [q] at p
        cases o with
        | lst ds =>
          refine .inl (ru fun ι' H' v x R' r => ?_)
          obtain ⟨vs, rfl, e1, rr⟩ := r.list R' q
          exact ⟨_, rfl, ⟨vs, SqL.of e1⟩, p.here x R' (itr_live (RD.ref.mp r).1)⟩
        | _ => exact (show False from p).elim
    | _ => exact (show False from p).elim
theorem SimL.int1 {t : TA} (s : SimL C t ml) {env : AE} {h : AH} {σ : List (Option V)} {H : Hp} {ι : Nat → Addr} {f : Int → AH → IR} {Q : It → Hp → Prop} {Q' : List V → Hp → Prop} (R : Rel C.X.K ι h H) (V : RV C ι h.length H env σ)
    (p : PostI C ι h.length H σ (match ml env h with | .ok [.int j] h1 => f j h1 | .ok _ _ => .stuck | .exc c fs h1 => .exc c fs h1 | .stuck => .stuck) Q)
    (k : ∀ j h1 ι' H', ml env h = .ok [.int j] h1 → Ext ι h.length H ι' h1.length H' → Rel C.X.K ι' h1 H' → PostI C ι h.length H σ (f j h1) Q → Q' [.int j] H') : t σ H Q' := by
  refine s.run env h σ H ι _ R V ?_
  cases hm : ml env h with
  | exc c fs h1 => rw [hm] at p; exact p
  | stuck => rw [hm] at p; exact p
  | ok ds h1 =>
    rw [hm] at p
    match ds, p with
    | [.int j], p =>
      refine fun ι' H' vs x R' r => ?_
      obtain ⟨v, r', rfl, q1, q2⟩ := RDs.cons.mp r
      cases RDs.nil.mp q2
      cases RD.int.mp q1
      exact k j h1 ι' H' hm x R' p
    | [], p => exact (show False from p).elim
    | .non :: _, p => exact (show False from p).elim
    | .bl _ :: _, p => exact (show False from p).elim
    | .str _ :: _, p => exact (show False from p).elim
    | .ty _ :: _, p => exact (show False from p).elim
    | .tup _ :: _, p => exact (show False from p).elim
    | .rol _ :: _, p => exact (show False from p).elim
    | .kt _ :: _, p => exact (show False from p).elim
    | .ref _ :: _, p => exact (show False from p).elim
    | .int _ :: _ :: _, p => exact (show False from p).elim
theorem mi_range1 (hm : C.X.mg "range" = none) (ha : MA C [a] ml) (hg : Gl C.X "range" := by rfl) (hs : starEach [a] C.X.env = [(false, eval a C.X.env)] := by rfl) : MI C tg (.Call (.Name "range" p) [a] [] pos) (iRange1 ml) := by
  obtain ⟨t, pa, sa⟩ := ha
  refine ⟨_, pi_range1 hg hm pa hs, ⟨fun env h σ H ι Q R V p => ?_⟩⟩
  refine sa.int1 (f := fun j h1 => if RgB j then .ok (stat (rg 0 j.toNat)) h1 else .stuck) R V (by unfold iRange1 at p; exact p) fun j h1 ι' H' hm x R' p => ?_
  by_cases hj : RgB j
  · rw [if_pos hj] at p
    exact ⟨j, rfl, hj.1, hj.2, p.here x R' itr_range⟩
  · rw [if_neg hj] at p; exact p.elim
theorem mi_range2 (hm : C.X.mg "range" = none) (ha : MA C [a, b] ml) (hg : Gl C.X "range" := by rfl) (hs : starEach [a, b] C.X.env = [(false, eval a C.X.env), (false, eval b C.X.env)] := by rfl) (hs2 : starEach [b] C.X.env = [(false, eval b C.X.env)] := by rfl) : MI C tg (.Call (.Name "range" p) [a, b] [] pos) (iRange2 ml) := by
  obtain ⟨t, pa, sa⟩ := ha
  refine ⟨_, pi_range2 hg hm pa hs hs2, ⟨fun env h σ H ι Q R V p => ?_⟩⟩
  refine sa.run env h σ H ι _ R V ?_
  unfold iRange2 at p
  cases hm : ml env h with
  | exc c fs h1 => rw [hm] at p; exact p
  | stuck => rw [hm] at p; exact p
  | ok ds h1 =>
    rw [hm] at p
    split at p
    · rename_i i j h1' e
      injection e with e1 e2
      subst e1 e2
      by_cases hj : RgB2 i j
      · rw [if_pos hj] at p
        refine fun ι' H' vs x R' r => ?_
        obtain ⟨v, r', rfl, q1, q2⟩ := RDs.cons.mp r
        obtain ⟨v2, r2, rfl, q3, q4⟩ := RDs.cons.mp q2
        cases RDs.nil.mp q4
        cases RD.int.mp q1
        cases RD.int.mp q3
        exact ⟨i, j, rfl, hj, p.here x R' itr_range⟩
      · rw [if_neg hj] at p; exact p.elim
    · exact p.elim
    · rename_i e; cases e
    · rename_i e; cases e
theorem mi_revRange1 {p2 pos2 : Pos} {ma : EM} (hmr : C.X.mg "reversed" = none) (hm : C.X.mg "range" = none) (ha : ME C a ma) (hgr : Gl C.X "reversed" := by rfl) (hg : Gl C.X "range" := by rfl) (na : starEach [a] C.X.env = (false, eval a C.X.env) :: starEach [] C.X.env := by rfl)
    (hs : starEach [.Call (.Name "range" p) [a] [] pos] C.X.env = (false, eval (.Call (.Name "range" p) [a] [] pos) C.X.env) :: starEach [] C.X.env := by rfl) : MI C tg (.Call (.Name "reversed" p2) [.Call (.Name "range" p) [a] [] pos] [] pos2) (iRevRange1 (lCons ma lNil)) := by
  obtain ⟨t, pa, sa⟩ := ha
  refine ⟨_, pi_revR hgr hmr (prg_1 hg hm pa na) hs, ⟨fun env h σ H ι Q R V p => ?_⟩⟩
  refine sa.run env h σ H ι _ R V ?_
  unfold iRevRange1 lCons lNil at p
  cases hm : ma env h with
  | exc c fs h1 => rw [hm] at p; exact p
  | stuck => rw [hm] at p; exact p
  | ok d h1 =>
    rw [hm] at p
    dsimp only at p
    cases d with
    | int j =>
      dsimp only at p
      by_cases hj : RgB j
      · rw [if_pos hj] at p
        refine fun ι' H' v x R' r => ⟨j, RD.int.mp r, by omega, by omega, hj.1, hj.2, ?_⟩
        have e : (0 : Int) + (((j - 0).toNat : Nat) : Int) - 1 = ((j.toNat : Nat) : Int) - 1 := by rw [Int.sub_zero]; omega
        have e2 : (j - 0).toNat = j.toNat := by rw [Int.sub_zero]
        rw [e, e2]
        exact p.here x R' itr_revRange
      · rw [if_neg hj] at p; exact p.elim
    | _ => exact (show False from p).elim
end

/-! ### displays -/
noncomputable def eTup (l : LM) : EM := fun env h => (l env h).then fun ds h1 => if Fits (ds.length) then .ok (.tup ds) h1 else .stuck
noncomputable def eLst (l : LM) : EM := fun env h => (l env h).then fun ds h1 => if Fits (ds.length) then .ok (.ref h1.length) (h1 ++ [.lst ds]) else .stuck
section
variable {C : Ct} {es : List Expr} {ml : LM} {pos : Pos}
theorem SimL.then {t : TA} (s : SimL C t ml) {env : AE} {h : AH} {σ : List (Option V)} {H : Hp} {ι : Nat → Addr} {f : List D → AH → ER} {Q : VK} {Q' : List V → Hp → Prop} (R : Rel C.X.K ι h H) (V : RV C ι h.length H env σ)
    (p : PostE C ι h.length H σ ((ml env h).then f) Q)
    (k : ∀ ds h1 ι' H' vs, Ext ι h.length H ι' h1.length H' → Rel C.X.K ι' h1 H' → RV C ι' h1.length H' env σ → RDs C.X.K ι' h1.length H' ds vs → PostE C ι' h1.length H' σ (f ds h1) Q → Q' vs H') : t σ H Q' := by
  refine s.run env h σ H ι _ R V ?_
  cases hm : ml env h with
  | exc c fs h1 => rw [hm] at p; exact p
  | stuck => rw [hm] at p; exact p
  | ok ds h1 =>
    rw [hm] at p
    exact fun ι' H' vs x R' r => k ds h1 ι' H' vs x R' (V.ext R x) r (PostE.shift p x)
theorem me_tup {x1 : Nat} (ha : MA C es ml) : ME C (.Tuple es x1 pos) (eTup ml) := by
  obtain ⟨t, pa, sa⟩ := ha
  refine ⟨_, pe_tup pa, ⟨fun env h σ H ι Q R V p => ?_⟩⟩
  refine sa.then R V p fun ds h1 ι' H' vs x R' V' r p => ?_
  by_cases hl : Fits ds.length
  · rw [if_pos hl] at p
    exact ⟨by rw [← r.length]; exact hl, fun a ha => p.tup R' r ha⟩
  · rw [if_neg hl] at p; exact p.elim
theorem me_lst (ha : MA C es ml) : ME C (.List es pos) (eLst ml) := by
  obtain ⟨t, pa, sa⟩ := ha
  refine ⟨_, pe_lst pa, ⟨fun env h σ H ι Q R V p => ?_⟩⟩
  refine sa.then R V p fun ds h1 ι' H' vs x R' V' r p => ?_
  by_cases hl : Fits ds.length
  · rw [if_pos hl] at p
    exact ⟨by rw [← r.length]; exact hl, fun a ha => p.lst R' r ha⟩
  · rw [if_neg hl] at p; exact p.elim
end

/-! ### built-in functions, by values -/
noncomputable def cLen (ds : List D) (h : AH) : ER := match ds with
  | [.str x] => if Fits (x.length) then .ok (.int x.length) h else .stuck
  | [.ref i] => (match h[i]? with
    | some (.lst es) => .ok (.int es.length) h
    | some (.dK kvs) => .ok (.int kvs.length) h
    | _ => .stuck)
  | [.tup es] => .ok (.int es.length) h
  | [.rol es] => .ok (.int es.length) h
  | _ => .stuck
def cMax2 (ds : List D) (h : AH) : ER := match ds with
  | [.int i, .int j] => .ok (.int (if j > i then j else i)) h
  | _ => .stuck
def cMin2 (ds : List D) (h : AH) : ER := match ds with
  | [.int i, .int j] => .ok (.int (if j < i then j else i)) h
  | _ => .stuck
def cAbs (ds : List D) (h : AH) : ER := match ds with
  | [.int i] => .ok (.int (if i < 0 then -i else i)) h
  | _ => .stuck
def cInt (ds : List D) (h : AH) : ER := match ds with
  | [.int i] => .ok (.int i) h
  | [.bl b] => .ok (.int (if b then 1 else 0)) h
  | _ => .stuck
def cSum (ds : List D) (h : AH) : ER := match ds with
  | [d] => (match listOf h d with
    | some es => (match intsOf es with
      | some ns => .ok (.int ns.sum) h
      | none => .stuck)
    | none => .stuck)
  | _ => .stuck
def cAny (ds : List D) (h : AH) : ER := match ds with
  | [d] => (match listOf h d with
    | some es => (match blsOf es with
      | some ns => .ok (.bl (ns.any id)) h
      | none => .stuck)
    | none => .stuck)
  | _ => .stuck
def cAll (ds : List D) (h : AH) : ER := match ds with
  | [d] => (match listOf h d with
    | some es => (match blsOf es with
      | some ns => .ok (.bl (ns.all id)) h
      | none => .stuck)
    | none => .stuck)
  | _ => .stuck
/-- list(row) -/
def cList (ds : List D) (h : AH) : ER := match ds with
  | [d] => (match seqOf h d with
    | some es => .ok (.ref h.length) (h ++ [.lst es])
    | none => .stuck)
  | _ => .stuck
def cTuple (ds : List D) (h : AH) : ER := match ds with
  | [d] => (match seqOf h d with
    | some es => .ok (.tup es) h
    | none => .stuck)
  | _ => .stuck
/-- the types of data -/
def D.tyn (h : AH) : D → Option String
  | .non => some "NoneType"
  | .bl _ => some "bool"
  | .int _ => some "int"
  | .str _ => some "str"
  | .tup _ => some "tuple"
  | .rol _ => some "list"
  | .kt _ => some "tuple"
  | .ref i => (match h[i]? with
    | some (.lst _) => some "list"
    | some (.dK _) => some "dict"
    | some (.dT _) => some "dict"
    | some (.lk _ _ _) => none
    | none => none)
  | .ty _ => none
/-- is a value of type a one of type b -/
def isTy (a b : String) : Bool := a == b || (a == "bool" && b == "int")
def tyNames : List String := ["NoneType", "bool", "int", "str", "tuple", "list", "dict"]
def askTys : List String := ["bool", "int", "str", "tuple", "list", "dict"]
theorem kit_all : ∀ a ∈ tyNames, ∀ b ∈ askTys, kitB a b = some (isTy a b) := by decide +kernel
def cIsi (ds : List D) (h : AH) : ER := match ds with
  | [d, .ty n] => (match d.tyn h with
    | some t => if n ∈ askTys then .ok (.bl (isTy t n)) h else .stuck
    | none => .stuck)
  | _ => .stuck
section
variable {C : Ct}
theorem cs_len : CallS C (fun xs H Q => ∃ x n, xs = [x] ∧ LenV C.X.K x H n ∧ Q (.int n) H) cLen ∨ True := .inr trivial
theorem RDs.one {K : PySem.W.Frag} {ι : Nat → Addr} {n : Nat} {H : Hp} {d : D} {vs : List V} (r : RDs K ι n H [d] vs) : ∃ v, vs = [v] ∧ RD K ι n H d v := by
  obtain ⟨v, r', rfl, q1, q2⟩ := RDs.cons.mp r
  cases RDs.nil.mp q2
  exact ⟨v, rfl, q1⟩
theorem RDs.two {K : PySem.W.Frag} {ι : Nat → Addr} {n : Nat} {H : Hp} {d e : D} {vs : List V} (r : RDs K ι n H [d, e] vs) : ∃ v w, vs = [v, w] ∧ RD K ι n H d v ∧ RD K ι n H e w := by
  obtain ⟨v, r', rfl, q1, q2⟩ := RDs.cons.mp r
  obtain ⟨w, rfl, q3⟩ := q2.one
  exact ⟨v, w, rfl, q1, q3⟩
abbrev rLenAll (X : Cx) : List V → Hp → VK → Prop := fun xs H Q => (∃ p ys, xs = [.ref p] ∧ (SqL X.K H p ys ∨ SqT X.K H p ys) ∧ Q (.int ys.length) H) ∨ (∃ z, xs = [.str z] ∧ z.length ≤ sizeLine ∧ Q (.int z.length) H) ∨ (∃ a kvs, xs = [V.ref a] ∧ H a = some (.dK kvs) ∧ Q (.int kvs.length) H)
theorem cl_len {X : Cx} : CallR X (.builtin "len") (rLenAll X) := call_len_seq.or (call_len_str.or call_lenD)
theorem cs_lenAll : CallS C (rLenAll C.X) cLen := by
  intro ι h H σ xs ds Q R r p
  unfold cLen at p
  split at p
  · split at p
    · rename_i hl
      obtain ⟨v, rfl, q⟩ := r.one
      exact .inr (.inl ⟨_, by rw [RD.str.mp q], hl, p.here R (RD.int.mpr rfl)⟩)
    · exact p.elim
  · obtain ⟨v, rfl, q⟩ := r.one
    split at p
    · rename_i es e
      obtain ⟨vs, rfl, e1, rr⟩ := q.list R e
      exact .inl ⟨_, vs, rfl, .inl (SqL.of e1), p.here R (RD.int.mpr (by rw [rr.length]))⟩
    · rename_i i kvs e
      obtain ⟨_, rfl⟩ := RD.ref.mp q
      obtain ⟨ws, e1, k, rr⟩ := R.ob _ _ e
      have : kvs.length = ws.length := by simpa using congrArg List.length k
      exact .inr (.inr ⟨_, ws, rfl, e1, p.here R (RD.int.mpr (by rw [this]))⟩)
    · exact p.elim
  · obtain ⟨v, rfl, q⟩ := r.one
    obtain ⟨a, vs, rfl, s, rr⟩ := RD.tup.mp q
    exact .inl ⟨_, vs, rfl, .inr s, p.here R (RD.int.mpr (by rw [rr.length]))⟩
  · obtain ⟨v, rfl, q⟩ := r.one
    obtain ⟨a, vs, rfl, s, rr⟩ := RD.rol.mp q
    exact .inl ⟨_, vs, rfl, .inl s.sq, p.here R (RD.int.mpr (by rw [rr.length]))⟩
  · exact p.elim
theorem cs_max2 : CallS C (fun xs H Q => ∃ i j, xs = [.int i, .int j] ∧ Q (.int (if j > i then j else i)) H) cMax2 := by
  intro ι h H σ xs ds Q R r p
  unfold cMax2 at p
  split at p
  · rename_i i j
    obtain ⟨v, w, rfl, q1, q2⟩ := r.two
    exact ⟨i, j, by rw [RD.int.mp q1, RD.int.mp q2], p.here R (RD.int.mpr rfl)⟩
  · exact p.elim
theorem cs_min2 : CallS C (fun xs H Q => ∃ i j, xs = [.int i, .int j] ∧ Q (.int (if j < i then j else i)) H) cMin2 := by
  intro ι h H σ xs ds Q R r p
  unfold cMin2 at p
  split at p
  · rename_i i j
    obtain ⟨v, w, rfl, q1, q2⟩ := r.two
    exact ⟨i, j, by rw [RD.int.mp q1, RD.int.mp q2], p.here R (RD.int.mpr rfl)⟩
  · exact p.elim
theorem cs_abs : CallS C (fun xs H Q => ∃ i, xs = [.int i] ∧ Q (.int (if i < 0 then -i else i)) H) cAbs := by
  intro ι h H σ xs ds Q R r p
  unfold cAbs at p
  split at p
  · rename_i i
    obtain ⟨v, rfl, q1⟩ := r.one
    exact ⟨i, by rw [RD.int.mp q1], p.here R (RD.int.mpr rfl)⟩
  · exact p.elim
theorem cs_int : CallS C (fun xs H Q => (∃ i, xs = [.int i] ∧ Q (.int i) H) ∨ ∃ k, xs = [.bl k] ∧ Q (.int (if k then 1 else 0)) H) cInt := by
  intro ι h H σ xs ds Q R r p
  unfold cInt at p
  split at p
  · rename_i i
    obtain ⟨v, rfl, q1⟩ := r.one
    exact .inl ⟨i, by rw [RD.int.mp q1], p.here R (RD.int.mpr rfl)⟩
  · rename_i i
    obtain ⟨v, rfl, q1⟩ := r.one
    exact .inr ⟨i, by rw [RD.bl.mp q1], p.here R (RD.int.mpr rfl)⟩
  · exact p.elim
theorem cs_sum : CallS C (rSum C.X.K) cSum := by
  intro ι h H σ xs ds Q R r p
  unfold cSum at p
  split at p
  · rename_i d
    obtain ⟨v, rfl, q1⟩ := r.one
    split at p
    · rename_i es e
      split at p
      · rename_i ns e2
        obtain ⟨a, vs, rfl, s, rr⟩ := listOf_sq R q1 e
        rw [intsOf_eq e2] at rr
        rw [rr.ints] at s
        exact ⟨a, ns, rfl, s, p.here R (RD.int.mpr rfl)⟩
      · exact p.elim
    · exact p.elim
  · exact p.elim
theorem cs_any : CallS C (rAny C.X.K) cAny := by
  intro ι h H σ xs ds Q R r p
  unfold cAny at p
  split at p
  · rename_i d
    obtain ⟨v, rfl, q1⟩ := r.one
    split at p
    · rename_i es e
      split at p
      · rename_i ns e2
        obtain ⟨a, vs, rfl, s, rr⟩ := listOf_sq R q1 e
        rw [blsOf_eq e2] at rr
        rw [rr.bls] at s
        exact ⟨a, ns, rfl, s, p.here R (RD.bl.mpr rfl)⟩
      · exact p.elim
    · exact p.elim
  · exact p.elim
theorem cs_all : CallS C (rAll C.X.K) cAll := by
  intro ι h H σ xs ds Q R r p
  unfold cAll at p
  split at p
  · rename_i d
    obtain ⟨v, rfl, q1⟩ := r.one
    split at p
    · rename_i es e
      split at p
      · rename_i ns e2
        obtain ⟨a, vs, rfl, s, rr⟩ := listOf_sq R q1 e
        rw [blsOf_eq e2] at rr
        rw [rr.bls] at s
        exact ⟨a, ns, rfl, s, p.here R (RD.bl.mpr rfl)⟩
      · exact p.elim
    · exact p.elim
  · exact p.elim
theorem cs_list : CallS C (fun xs H Q => ∃ p ys, xs = [.ref p] ∧ (SqL C.X.K H p ys ∨ SqT C.X.K H p ys) ∧ ∀ l, H l = none → Q (.ref l) (upd H l (.lst ys))) cList := by
  intro ι h H σ xs ds Q R r p
  unfold cList at p
  split at p
  · rename_i d
    obtain ⟨v, rfl, q1⟩ := r.one
    split at p
    · rename_i es e
      obtain ⟨a, vs, rfl, s, rr⟩ := seqOf_sq R q1 e
      exact ⟨a, vs, rfl, s, fun l hl => p.lst R rr hl⟩
    · exact p.elim
  · exact p.elim
theorem cs_tuple : CallS C (fun xs H Q => ∃ p ys, xs = [.ref p] ∧ ((SqL C.X.K H p ys ∧ ∀ l, H l = none → Q (.ref l) (upd H l (.tup ys))) ∨ (SqT C.X.K H p ys ∧ Q (.ref p) H))) cTuple := by
  intro ι h H σ xs ds Q R r p
  unfold cTuple at p
  split at p
  · rename_i d
    obtain ⟨v, rfl, q1⟩ := r.one
    split at p
    · rename_i es e
      cases d with
      | tup fs =>
        cases e
        obtain ⟨a, vs, rfl, s, rr⟩ := RD.tup.mp q1
        exact ⟨a, vs, rfl, .inr ⟨s, p.here R q1⟩⟩
      | rol fs =>
        cases e
        obtain ⟨a, vs, rfl, s, rr⟩ := RD.rol.mp q1
        exact ⟨a, vs, rfl, .inl ⟨s.sq, fun l hl => p.tup R rr hl⟩⟩
      | ref i =>
        have e' : listOf h (.ref i) = some es := e
        obtain ⟨a, vs, rfl, s, rr⟩ := listOf_sq R q1 e'
        exact ⟨a, vs, rfl, .inl ⟨s, fun l hl => p.tup R rr hl⟩⟩
      | _ => cases e
    · exact p.elim
  · exact p.elim
theorem tyn_mem {h : AH} {d : D} {t : String} (e : d.tyn h = some t) : t ∈ tyNames := by
  cases d with
  | ref i =>
    simp only [D.tyn] at e
    cases q : h[i]? with
    | none => rw [q] at e; cases e
    | some o => rw [q] at e; cases o <;> first | (cases e; decide) | cases e
  | ty n => cases e
  | _ => cases e; decide
theorem tyn_tyx {K : PySem.W.Frag} {ι : Nat → Addr} {h : AH} {H : Hp} {d : D} {v : V} {t : String} (R : Rel K ι h H) (r : RD K ι h.length H d v) (e : d.tyn h = some t) : TyX K H v (.type t) := by
  cases d with
  | non => cases e; rw [RD.non.mp r]; exact .base .non
  | bl b => cases e; rw [RD.bl.mp r]; exact .base (.bl b)
  | int b => cases e; rw [RD.int.mp r]; exact .base (.int b)
  | str b => cases e; rw [RD.str.mp r]; exact .base (.str b)
  | ty n => cases e
  | tup ds =>
    cases e
    obtain ⟨a, vs, rfl, s, rr⟩ := RD.tup.mp r
    rcases s with (s | ⟨o, s⟩) | ⟨o, its, n, hk, hc, _⟩
    · exact .base (.tup s)
    · exact .fTuple s
    · exact .kTuple hk hc
  | rol ds =>
    cases e
    obtain ⟨a, vs, rfl, s, rr⟩ := RD.rol.mp r
    rcases s with ⟨o, s⟩ | ⟨o, its, n, hk, hc, _⟩
    · exact .base (.frz s)
    · exact .kList hk hc
  | kt ds =>
    cases e
    obtain ⟨a, vs, rfl, ⟨o, s, _⟩, rr⟩ := RD.kt.mp r
    exact .fTuple s
  | ref i =>
    simp only [D.tyn] at e
    obtain ⟨_, rfl⟩ := RD.ref.mp r
    cases q : h[i]? with
    | none => rw [q] at e; cases e
    | some o =>
      rw [q] at e
      have ro := R.ob i o q
      cases o with
      | lst ds => cases e; obtain ⟨vs, e1, _⟩ := ro; exact .base (.lst e1)
      | dK ds => cases e; obtain ⟨vs, e1, _⟩ := ro; exact .base (.dK e1)
      | dT ds => cases e; obtain ⟨vs, e1, _⟩ := ro; exact .base (.dT e1)
      | lk ds od ws => cases e
theorem cs_isi : CallS C (rIsi C.X.K) cIsi := by
  intro ι h H σ xs ds Q R r p
  unfold cIsi at p
  split at p
  · rename_i d n
    obtain ⟨v, w, rfl, q1, q2⟩ := r.two
    split at p
    · rename_i t e
      split at p
      · rename_i hn
        exact ⟨v, w, .type t, .type n, isTy t n, rfl, by rw [RD.ty.mp q2]; exact .ty n, tyn_tyx R q1 e, kit_ty (kit_all t (tyn_mem e) n hn), p.here R (RD.bl.mpr rfl)⟩
      · exact p.elim
    · exact p.elim
  · exact p.elim
end

/-! ### list(range(..)), tuple(range(..)) -/
noncomputable instance {a b : Int} : Decidable (RgOk a b) := Classical.propDecidable _
noncomputable def eRg1 (tp : Bool) (m : EM) : EM := fun env h => (m env h).then fun d h1 => match d with
  | .int j => if RgOk 0 j then (if tp then .ok (.tup (rg 0 j.toNat)) h1 else .ok (.ref h1.length) (h1 ++ [.lst (rg 0 j.toNat)])) else .stuck
  | _ => .stuck
section
variable {C : Ct} {a : Expr} {ma : EM} {p pos p2 pos2 : Pos}
theorem rds_rg {K : PySem.W.Frag} {ι : Nat → Addr} {n : Nat} {H : Hp} {j : Int} : RDs K ι n H (rg 0 j.toNat) (rgV 0 j) := by
  unfold rg rgV
  rw [Int.sub_zero]
  generalize j.toNat = m
  have : ∀ l : List Nat, RDs K ι n H (l.map fun (i : Nat) => D.int (0 + (i : Nat))) (l.map fun (i : Nat) => V.int (0 + (i : Nat))) := by
    intro l
    induction l with
    | nil => exact RDs.nil'
    | cons x l ih => exact RDs.cons' (RD.int.mpr rfl) ih
  exact this _
theorem me_listRg1 (hc : C.X.calm = true) (hml : C.X.mg "list" = none) (hm : C.X.mg "range" = none) (ha : ME C a ma) (hgl : Gl C.X "list" := by rfl) (hg : Gl C.X "range" := by rfl) (na : starEach [a] C.X.env = (false, eval a C.X.env) :: starEach [] C.X.env := by rfl)
    (hs : starEach [.Call (.Name "range" p) [a] [] pos] C.X.env = (false, eval (.Call (.Name "range" p) [a] [] pos) C.X.env) :: starEach [] C.X.env := by rfl) : ME C (.Call (.Name "list" p2) [.Call (.Name "range" p) [a] [] pos] [] pos2) (eRg1 false ma) := by
  obtain ⟨t, pa, sa⟩ := ha
  refine ⟨_, pe_listRg hc hgl hml (prg_1 hg hm pa na) hs, ⟨fun env h σ H ι Q R V p => ?_⟩⟩
  refine sa.then R V p fun d h1 ι1 H1 v x1 R1 V1 r1 p1 => ?_
  cases d with
  | int j =>
    dsimp only at p1
    by_cases hj : RgOk 0 j
    · rw [if_pos hj] at p1
      exact ⟨j, RD.int.mp r1, hj, fun q hq => p1.lst R1 rds_rg hq⟩
    · rw [if_neg hj] at p1; exact p1.elim
  | _ => exact (show False from p1).elim
theorem me_tupRg1 (hc : C.X.calm = true) (hml : C.X.mg "tuple" = none) (hm : C.X.mg "range" = none) (ha : ME C a ma) (hgl : Gl C.X "tuple" := by rfl) (hg : Gl C.X "range" := by rfl) (na : starEach [a] C.X.env = (false, eval a C.X.env) :: starEach [] C.X.env := by rfl)
    (hs : starEach [.Call (.Name "range" p) [a] [] pos] C.X.env = (false, eval (.Call (.Name "range" p) [a] [] pos) C.X.env) :: starEach [] C.X.env := by rfl) : ME C (.Call (.Name "tuple" p2) [.Call (.Name "range" p) [a] [] pos] [] pos2) (eRg1 true ma) := by
  obtain ⟨t, pa, sa⟩ := ha
  refine ⟨_, pe_tupRg hc hgl hml (prg_1 hg hm pa na) hs, ⟨fun env h σ H ι Q R V p => ?_⟩⟩
  refine sa.then R V p fun d h1 ι1 H1 v x1 R1 V1 r1 p1 => ?_
  cases d with
  | int j =>
    dsimp only at p1
    by_cases hj : RgOk 0 j
    · rw [if_pos hj] at p1
      exact ⟨j, RD.int.mp r1, hj, fun q hq => p1.tup R1 rds_rg hq⟩
    · rw [if_neg hj] at p1; exact p1.elim
  | _ => exact (show False from p1).elim
end

/-! ### methods, stores -/
def MtS (C : Ct) (r : V → List V → Hp → VK → Prop) (g : D → List D → AH → ER) : Prop := ∀ (ι : Nat → Addr) (h : AH) (H : Hp) (σ : List (Option V)) (x : V) (xs : List V) (d : D) (ds : List D) (Q : VK), Rel C.X.K ι h H → RD C.X.K ι h.length H d x → RDs C.X.K ι h.length H ds xs → PostE C ι h.length H σ (g d ds h) Q → r x xs H Q
/-- of a type, asked for its method -/
def tyOk (h : AH) (T : String) (d : D) : Bool := match d with
  | .str _ => T == "str"
  | .int _ => T == "int"
  | .rol _ => T == "list"
  | .ref i => (match h[i]? with
    | some (.lst _) => T == "list"
    | some (.dK _) => T == "dict"
    | some (.dT _) => T == "dict"
    | some (.lk _ _ _) => false
    | none => false)
  | _ => false
theorem tyOk_v {K : PySem.W.Frag} {ι : Nat → Addr} {h : AH} {H : Hp} {d : D} {v : V} {T : String} (R : Rel K ι h H) (r : RD K ι h.length H d v) (e : tyOk h T d = true) : tyV K T v H := by
  cases d with
  | str x => rw [RD.str.mp r]; exact beq_iff_eq.mp e
  | int x => rw [RD.int.mp r]; exact beq_iff_eq.mp e
  | rol ds =>
    obtain ⟨a, vs, rfl, s, _⟩ := RD.rol.mp r
    exact .inl ⟨beq_iff_eq.mp e, vs, s.sq⟩
  | ref i =>
    obtain ⟨_, rfl⟩ := RD.ref.mp r
    simp only [tyOk] at e
    cases q : h[i]? with
    | none => rw [q] at e; cases e
    | some o =>
      rw [q] at e
      have ro := R.ob i o q
      cases o with
      | lst ds => obtain ⟨vs, e1, _⟩ := ro; exact .inl ⟨beq_iff_eq.mp e, vs, SqL.of e1⟩
      | dK ds => obtain ⟨vs, e1, _⟩ := ro; exact .inr (.inr (.inl ⟨beq_iff_eq.mp e, .inl ⟨vs, e1⟩⟩))
      | dT ds => obtain ⟨vs, e1, _⟩ := ro; exact .inr (.inr (.inl ⟨beq_iff_eq.mp e, .inr ⟨vs, e1⟩⟩))
      | lk ds od ws => cases e
  | _ => cases e
def eMeth (T : String) (g : D → List D → AH → ER) (o : EM) (l : LM) : EM := fun env h => (o env h).then fun d h1 => if tyOk h1 T d then (l env h1).then fun ds h2 => g d ds h2 else .stuck
section
variable {C : Ct} {o e : Expr} {es : List Expr} {mo : EM} {ml : LM} {name : Str} {apos cpos : Pos} {T id : String} {r : V → List V → Hp → VK → Prop} {g : D → List D → AH → ER}
theorem me_meth0 (pa : PlainAttrs T) (slot : Slot T name id) (hty : typeOf (.builtin id) = pure (.type "method_descriptor")) (hm : MtR C.X id r) (hs : MtS C r g) (ho : ME C o mo)
    (hbase : attributeBase o name C.X.env (eval o C.X.env) = eval o C.X.env := by rfl) (hline : (apos.endLine == cpos.line) = true := by rfl) : ME C (.Call (.Attribute o name apos) [] [] cpos) (eMeth T g mo lNil) := by
  obtain ⟨t, p, s⟩ := ho
  refine ⟨_, pe_bm0 pa slot hty hm p hbase hline, ⟨fun env h σ H ι Q R V p => ?_⟩⟩
  refine s.then R V p fun d h1 ι1 H1 v x1 R1 V1 r1 p1 => ?_
  by_cases ht : tyOk h1 T d = true
  · rw [if_pos ht] at p1
    exact ⟨tyOk_v R1 r1 ht, hs ι1 h1 H1 σ v [] d [] Q R1 r1 RDs.nil' p1⟩
  · rw [if_neg ht] at p1; exact p1.elim
theorem me_meth (pa : PlainAttrs T) (slot : Slot T name id) (hty : typeOf (.builtin id) = pure (.type "method_descriptor")) (hm : MtR C.X id r) (hs : MtS C r g) (ho : ME C o mo) (ha : MA C (e :: es) ml)
    (hbase : attributeBase o name C.X.env (eval o C.X.env) = eval o C.X.env := by rfl)
    (hfew : ((backTo cpos (starEach (e :: es) C.X.env)).all (fun x => !x.1) && (backToKw cpos (keywordEach [] C.X.env)).all (fun x => x.1.isSome)
      && decide ((e :: es).length + ([] : List Keyword).length + (if ([] : List Keyword).isEmpty then 0 else 1) < 30)) = true := by rfl)
    (hline : (apos.endLine == cpos.line) = true := by rfl) (hst : starEach (e :: es) C.X.env = (false, eval e C.X.env) :: starEach es C.X.env := by rfl) (hplain : (backTo cpos (starEach es C.X.env)).any (·.1) = false := by rfl) :
    ME C (.Call (.Attribute o name apos) (e :: es) [] cpos) (eMeth T g mo ml) := by
  obtain ⟨t, p, s⟩ := ho
  obtain ⟨tl, pl, sl⟩ := ha
  refine ⟨_, pe_bm pa slot hty hm p pl hbase hfew hline hst hplain, ⟨fun env h σ H ι Q R V p => ?_⟩⟩
  refine s.then R V p fun d h1 ι1 H1 v x1 R1 V1 r1 p1 => ?_
  by_cases ht : tyOk h1 T d = true
  · rw [if_pos ht] at p1
    refine ⟨tyOk_v R1 r1 ht, ?_⟩
    refine sl.then R1 V1 p1 fun ds h2 ι2 H2 vs x2 R2 V2 r2 p2 => ?_
    exact hs ι2 h2 H2 σ v vs d ds Q R2 (r1.mono (x2.grow R1)) r2 p2
  · rw [if_neg ht] at p1; exact p1.elim
theorem PostE.put {ι : Nat → Addr} {h : AH} {H : Hp} {σ : List (Option V)} {Q : VK} {i : Nat} {ds : List D} {vs : List V} {d : D} {v : V} (p : PostE C ι h.length H σ (.ok d (h.set i (.lst ds))) Q) (R : Rel C.X.K ι h H) (hi : i < h.length) (r : RDs C.X.K ι h.length H ds vs)
    (rd : RD C.X.K ι h.length H d v) : Q v (upd H (ι i) (.lst vs)) := by
  have x : Ext ι h.length H ι h.length (upd H (ι i) (.lst vs)) := Ext.put R hi
  refine p ι _ v (by rw [List.length_set]; exact x) (R.put hi fun x => ⟨vs, upd_same, r.mono (x.grow R)⟩) ?_
  rw [List.length_set]
  exact rd.mono (x.grow R)
end
noncomputable def mAppend (d : D) (ds : List D) (h : AH) : ER := match d, ds with
  | .ref i, [y] => (match h[i]? with
    | some (.lst xs) => if FitsL xs.length then .ok .non (h.set i (.lst (xs ++ [y]))) else .stuck
    | _ => .stuck)
  | _, _ => .stuck
def mPop (d : D) (ds : List D) (h : AH) : ER := match d, ds with
  | .ref i, [] => (match h[i]? with
    | some (.lst xs) => (match xs[xs.length - 1]? with
      | some y => .ok y (h.set i (.lst xs.dropLast))
      | none => .stuck)
    | _ => .stuck)
  | _, _ => .stuck
noncomputable def mPopAt (d : D) (ds : List D) (h : AH) : ER := match d, ds with
  | .ref i, [.int j] => (match h[i]? with
    | some (.lst xs) => (match L2.ixN xs.length j with
      | some k => (match xs[k]? with
        | some y => if Fits xs.length then .ok y (h.set i (.lst (xs.eraseIdx k))) else .stuck
        | none => .stuck)
      | none => .stuck)
    | _ => .stuck)
  | _, _ => .stuck
noncomputable def mExtend (d : D) (ds : List D) (h : AH) : ER := match d, ds with
  | .ref i, [.ref j] => (match h[i]?, h[j]? with
    | some (.lst xs), some (.lst ys) => if Fits (xs.length + ys.length) then .ok .non (h.set i (.lst (xs ++ ys))) else .stuck
    | _, _ => .stuck)
  | _, _ => .stuck
/-- the first place of p -/
def firstAt (p : PyData) : List PyData → Option Nat
  | [] => none
  | q :: r => if PyData.eqv q p then some 0 else (firstAt p r).map (· + 1)
theorem firstAt_spec {p : PyData} : ∀ {l : List PyData} {j : Nat}, firstAt p l = some j → ∃ z, l[j]? = some z ∧ PyData.eqv z p = true ∧ ∀ m z', m < j → l[m]? = some z' → PyData.eqv z' p = false
  | [], j, e => by cases e
  | q :: r, j, e => by
    unfold firstAt at e
    split at e
    · rename_i hq
      cases e
      exact ⟨q, rfl, hq, fun m z' hm => absurd hm (Nat.not_lt_zero m)⟩
    · rename_i hq
      cases q2 : firstAt p r with
      | none => rw [q2] at e; cases e
      | some k =>
        rw [q2] at e
        cases e
        obtain ⟨z, h1, h2, h3⟩ := firstAt_spec q2
        refine ⟨z, by simpa using h1, h2, fun m z' hm e' => ?_⟩
        cases m with
        | zero => simp at e'; subst e'; simpa using hq
        | succ m => exact h3 m z' (Nat.lt_of_succ_lt_succ hm) (by simpa using e')
def mIndex (d : D) (ds : List D) (h : AH) : ER := match d, ds with
  | .ref i, [y] => (match (D.ref i).toP h 20, y.toP h 20 with
    | some (.list ps), some p => (match firstAt p ps with
      | some j => .ok (.int (j : Nat)) h
      | none => .stuck)
    | _, _ => .stuck)
  | _, _ => .stuck
section
variable {C : Ct}
theorem ms_append : MtS C rAppend mAppend := by
  intro ι h H σ x xs d ds Q R r rs p
  unfold mAppend at p
  split at p
  · rename_i i y
    split at p
    · rename_i es e
      split at p
      · rename_i hl
        obtain ⟨vs, rfl, e1, rr⟩ := r.list R e
        obtain ⟨w, rfl, q⟩ := rs.one
        exact ⟨_, vs, w, rfl, rfl, e1, by rw [← rr.length]; exact hl, p.put R (RD.ref.mp r).1 (rr.append (RDs.cons' q RDs.nil')) (RD.non.mpr rfl)⟩
      · exact p.elim
    · exact p.elim
  · exact p.elim
theorem ms_pop : MtS C rPop mPop := by
  intro ι h H σ x xs d ds Q R r rs p
  unfold mPop at p
  split at p
  · rename_i i
    split at p
    · rename_i es e
      split at p
      · rename_i y ey
        obtain ⟨vs, rfl, e1, rr⟩ := r.list R e
        cases RDs.nil.mp rs
        obtain ⟨w, ew, rw_⟩ := rr.get ey
        exact ⟨_, vs, w, rfl, rfl, e1, by rw [← rr.length]; exact ew, p.put R (RD.ref.mp r).1 rr.dropLast rw_⟩
      · exact p.elim
    · exact p.elim
  · exact p.elim
theorem ms_popAt : MtS C rPopAt mPopAt := by
  intro ι h H σ x xs d ds Q R r rs p
  unfold mPopAt at p
  split at p
  · rename_i i j
    split at p
    · rename_i es e
      split at p
      · rename_i k ek
        split at p
        · rename_i y ey
          split at p
          · rename_i hl
            obtain ⟨vs, rfl, e1, rr⟩ := r.list R e
            obtain ⟨u, rfl, q⟩ := rs.one
            obtain ⟨w, ew, rw_⟩ := rr.get ey
            obtain ⟨a1, a2, a3, a4⟩ := ixN_seq ek
            change _ ≤ sizeLine at hl
            rw [sizeLine_eq] at hl
            exact ⟨_, vs, j, k, w, rfl, by rw [RD.int.mp q], e1, by omega, by omega, by rw [← rr.length]; exact a1, ew, p.put R (RD.ref.mp r).1 (rr.eraseIdx k) rw_⟩
          · exact p.elim
        · exact p.elim
      · exact p.elim
    · exact p.elim
  · exact p.elim
theorem ms_extend : MtS C rExtend mExtend := by
  intro ι h H σ x xs d ds Q R r rs p
  unfold mExtend at p
  split at p
  · rename_i i j
    split at p
    · rename_i es fs e e'
      split at p
      · rename_i hl
        obtain ⟨vs, rfl, e1, rr⟩ := r.list R e
        obtain ⟨w, rfl, q⟩ := rs.one
        obtain ⟨ws, rfl, e2, rr2⟩ := q.list R e'
        exact ⟨_, _, vs, ws, rfl, rfl, e1, e2, by rw [← rr.length, ← rr2.length]; exact hl, p.put R (RD.ref.mp r).1 (rr.append rr2) (RD.non.mpr rfl)⟩
      · exact p.elim
    · exact p.elim
  · exact p.elim
theorem ms_index : MtS C (rIndexD C.X.K) mIndex := by
  intro ι h H σ x xs d ds Q R r rs p
  unfold mIndex at p
  split at p
  · rename_i i y
    split at p
    · rename_i ps q e1 e2
      split at p
      · rename_i j ej
        obtain ⟨w, rfl, rw_⟩ := rs.one
        obtain ⟨a1, a2, a3⟩ := toP_dp R _ _ _ _ r e1
        obtain ⟨b1, b2, b3⟩ := toP_dp R _ _ _ _ rw_ e2
        obtain ⟨z, z1, z2, z3⟩ := firstAt_spec ej
        obtain ⟨_, rfl⟩ := RD.ref.mp r
        exact ⟨_, w, q, ps, j, z, rfl, rfl, a1, b1, toP_shaped a2 a3, toP_shaped b2 b3, z1, z2, z3, p.here R (RD.int.mpr rfl)⟩
      · exact p.elim
    · exact p.elim
  · exact p.elim
def putL (o i v : D) (h : AH) : Option AH := match o, i with
  | .ref r, .int k => (match h[r]? with
    | some (.lst xs) => (match L2.ixN xs.length k with
      | some j => some (h.set r (.lst (xs.set j v)))
      | none => none)
    | _ => none)
  | _, _ => none
theorem ss_list : SetS C rSetL putL := by
  intro ι h H x y z d1 d2 d3 h' Q R r1 r2 r3 e k
  unfold putL at e
  split at e
  · rename_i r j
    split at e
    · rename_i xs e0
      split at e
      · rename_i m em
        cases e
        obtain ⟨vs, rfl, e1, rr⟩ := r1.list R e0
        have hi := (RD.ref.mp r1).1
        refine ⟨_, vs, j, m, rfl, RD.int.mp r2, e1, by rw [← rr.length]; exact em, ?_⟩
        exact k ι _ (by rw [List.length_set]; exact Ext.put R hi) (R.put hi fun x => ⟨_, upd_same, (rr.set m r3).mono (x.grow R)⟩)
      · cases e
    · cases e
  · cases e
end
end Rf

set_option maxHeartbeats 1000000
namespace Rf
open PySem PySem.Spec PyProof.Rows L2
section
variable {C : Ct} {a : Expr} {ma : EM} {pos : Pos}
theorem me_int {i : Int} {k : Nat} : ME C (.Constant (.int i) k pos) (eC (.int i)) := me_C (v := .int i) pe_int fun _ _ _ => RD.int.mpr rfl
theorem me_bl {b : Bool} {k : Nat} : ME C (.Constant (.bool b) k pos) (eC (.bl b)) := me_C (v := .bl b) pe_bl fun _ _ _ => RD.bl.mpr rfl
theorem me_non {k : Nat} : ME C (.Constant .none k pos) (eC .non) := me_C (v := .non) pe_non fun _ _ _ => RD.non.mpr rfl
theorem me_str {x : Str} {k : Nat} : ME C (.Constant (.str x) k pos) (eC (.str x)) := me_C (v := .str x) pe_str fun _ _ _ => RD.str.mpr rfl
theorem me_ty {x : Str} {n : String} (hm : C.X.mg x = none) (hv : bootBuiltins x = some (.type n) := by decide +kernel) (hg : Gl C.X x := by rfl) (hn : x ≠ "__name__" := by decide) (hd : (x == ("__debug__" : Str)) = false := by decide) : ME C (.Name x pos) (eC (.ty n)) :=
  me_C (v := .ty n) (pe_bltn hg hm hv rfl hn hd) fun _ _ _ => RD.ty.mpr rfl
theorem mo_none : MO C none none := rfl
theorem mo_some (h : ME C a ma) : MO C (some a) (some ma) := ⟨a, rfl, h⟩
end
theorem units65 {A : Around} {k : Nat} (hr : Room k A) : A.units + 65 < cLine := by have := hr.un; omega
/-- a def of the module, as it stands -/
structure DA (K : PySem.W.Frag) (mg : Str → Option Value) (x : Str) (st : Stmt) (ps : List Str) (f : Addr) (fd : FuncData) : Prop where
  fn : Fun K x x st f fd
  mgf : mg x = some (.ref f)
  bd : Binds K fd ps []
end Rf
namespace Rf
open PySem PySem.Spec PyProof.Rows L2
/-- what the law's own def is held to: its plain function ends well, and so the call -/
def spLaw (K : PySem.W.Frag) (F : List D → AH → ER) : Sp := fun vs H Q _ => vs.length = 1 ∧ ∃ ι h ds, Rel K ι h H ∧ RDs K ι h.length H ds vs ∧ ∃ d h', F ds h = .ok d h' ∧ ∀ ι' H' v, Ext ι h.length H ι' h'.length H' → Rel K ι' h' H' → RD K ι' h'.length H' d v → Q v H'
theorem spLaw.of {K : PySem.W.Frag} {mg : Str → Option Value} {F : List D → AH → ER} : ∀ vs H Q E, spLaw K F vs H Q E → spF K mg 1 F vs H Q E := by
  rintro vs H Q E ⟨hl, ι, h, ds, R, r, d, h', e, q⟩
  refine ⟨hl, ι, h, ds, R, r, ?_⟩
  rw [e]
  exact q
theorem RDs.rol_ints {K : PySem.W.Frag} {ι : Nat → Addr} {n : Nat} {H : Hp} {a : Addr} {ns : List Int} (q : RoL K H a (ns.map V.int)) : RD K ι n H (.rol (ns.map D.int)) (.ref a) := RD.rol.mpr ⟨a, _, rfl, q, RDs.of_ints⟩
theorem spLaw.start {K : PySem.W.Frag} {F : List D → AH → ER} {H : Hp} {a : Addr} {ns : List Int} (O : Only H) (S : SqL K H a (ns.map V.int)) (hF : ∃ h', F [.rol (ns.map D.int)] [] = .ok (.bl true) h') : spLaw K F [.ref a] H (fun v _ => v = .bl true) fun _ _ _ => False := by
  obtain ⟨h', e⟩ := hF
  have q : RoL K H a (ns.map V.int) := by
    rcases S with (s | s) | s
    · rcases O a with z | ⟨o, xs, z⟩ <;> (rw [s] at z; cases z)
    · exact .inl s
    · exact .inr s
  exact ⟨rfl, fun _ => 0, [], [.rol (ns.map D.int)], ⟨fun i j hi => absurd hi (Nat.not_lt_zero i), fun i o e => by simp at e⟩, RDs.cons' (RDs.rol_ints q) RDs.nil', .bl true, h', e, fun ι' H' v _ _ r => RD.bl.mp r⟩
theorem cx_false {P : Program} {w : World} {H : Hp} {s s' : Shared} {e : Value} (h : L2.CX P w [] H s (fun _ _ _ => False) e s') : False := by
  obtain ⟨_, _, _, _, _, _, _, _, _, _, _, _, z⟩ := h
  exact z
end Rf

set_option maxHeartbeats 1000000
/-! Calls with keywords, every parameter given. -/
namespace Rf
open PySem PySem.Spec PyProof.Rows L2
def MK (C : Ct) (kws : List Keyword) (m : LM) : Prop := ∃ t, PK C.X kws t ∧ SimL C t m
section
variable {C : Ct} {e : Expr} {m : EM} {kws : List Keyword} {nm : Option Str} {kpos : Pos} {mr : LM}
theorem mk_nil : MK C [] lNil := ⟨_, pk_nil, ⟨fun env h σ H ι Q R V p => p ι H [] .refl R RDs.nil'⟩⟩
theorem mk_cons (ha : ME C e m) (hr : MK C kws mr) : MK C (⟨nm, e, kpos⟩ :: kws) (lCons m mr) := by
  obtain ⟨ta, pa, sa⟩ := ha
  obtain ⟨tr, pr, sr⟩ := hr
  refine ⟨_, pk_cons pa pr, ⟨fun env h σ H ι Q R V p => ?_⟩⟩
  refine sa.run env h σ H ι _ R V ?_
  unfold lCons at p
  cases hm : m env h with
  | ok d h1 =>
    rw [hm] at p
    dsimp only at p
    refine fun ι' H' v x R' r => ?_
    refine sr.run env h1 σ H' ι' _ R' (V.ext R x) ?_
    cases hm2 : mr env h1 with
    | ok ds h2 =>
      rw [hm2] at p
      exact fun ι2 H2 vs x2 R2 r2 => p ι2 H2 _ (x.trans x2) R2 (RDs.cons' (r.mono (x2.grow R')) r2)
    | exc c fs h2 =>
      rw [hm2] at p
      exact fun ι2 H2 Cl dd x2 => p ι2 H2 Cl dd (x.trans x2)
    | stuck => rw [hm2] at p; exact p
  | exc c fs h1 => rw [hm] at p; exact p
  | stuck => rw [hm] at p; exact p
end
/-- positional values, then those of the keywords in the parameters' order -/
def permK {α : Type} (idx : List Nat) (us ws : List α) : List α := us ++ idx.filterMap fun i => ws[i]?
theorem permK_RDs {K : PySem.W.Frag} {ι : Nat → Addr} {n : Nat} {H : Hp} {ds es : List D} {vs zs : List V} (r : RDs K ι n H ds vs) (q : RDs K ι n H es zs) : ∀ idx : List Nat, RDs K ι n H (permK idx ds es) (permK idx vs zs) := by
  have key : ∀ idx : List Nat, RDs K ι n H (idx.filterMap fun i => es[i]?) (idx.filterMap fun i => zs[i]?) := by
    intro idx
    induction idx with
    | nil => exact RDs.nil'
    | cons i idx ih =>
      rw [List.filterMap_cons, List.filterMap_cons]
      cases hi : es[i]? with
      | none =>
        have : zs[i]? = none := by
          rw [List.getElem?_eq_none_iff] at hi ⊢
          rw [← q.length]; exact hi
        rw [this]; exact ih
      | some d =>
        obtain ⟨v, hv, rv⟩ := RDs.get q hi
        rw [hv]
        exact RDs.cons' rv ih
  exact fun idx => RDs.append r (key idx)
theorem permK_Vals {vs zs : List V} {us ws : List Value} (r : Vals vs us) (q : Vals zs ws) : ∀ idx : List Nat, Vals (permK idx vs zs) (permK idx us ws) := by
  have at_ : ∀ {zs : List V} {ws : List Value} (i : Nat), Vals zs ws → (zs[i]? = none ∧ ws[i]? = none) ∨ ∃ a b, zs[i]? = some a ∧ ws[i]? = some b ∧ RelV a b := by
    intro zs ws i q
    induction q generalizing i with
    | nil => exact .inl ⟨rfl, rfl⟩
    | cons h t ih =>
      cases i with
      | zero => exact .inr ⟨_, _, rfl, rfl, h⟩
      | succ i => exact ih i
  have key : ∀ idx : List Nat, Vals (idx.filterMap fun i => zs[i]?) (idx.filterMap fun i => ws[i]?) := by
    intro idx
    induction idx with
    | nil => exact .nil
    | cons i idx ih =>
      rw [List.filterMap_cons, List.filterMap_cons]
      rcases at_ i q with ⟨h1, h2⟩ | ⟨a, b, h1, h2, h3⟩
      · rw [h1, h2]; exact ih
      · rw [h1, h2]; exact .cons h3 ih
  intro idx
  unfold permK
  induction r with
  | nil => exact key idx
  | cons h t ih => exact .cons h ih
theorem runK {X : Cx} {CX : CXT} {k n : Nat} {f : Addr} {fd : FuncData} {ps ks : List Str} {sp : Sp} {D : XK} {g : List Value → List Value → List Value} {gV : List V → List V → List V} {pins : List (Addr × Obj)} {σ : L2.St} {H : Hp} {s : Shared} {Q : VK} {us ws : List Value} {vs zs : List V}
    (F0 : FnOk X.prog X.w X.K X.mg X.base CX k f fd ps sp) (room : Room k X.A) (kb : KBn X.K fd ps n ks g gV) (ps0 : PassesAt CX X σ D) (J : Inv X pins σ H s) (r1 : Vals vs us) (r2 : Vals zs ws) (l1 : vs.length = n) (l2 : zs.length = ks.length) (q : sp (gV vs zs) H Q D) :
    wpAny (model X.prog X.w) X.A (call (.ref f) us (ks.zip ws)) (EP X pins σ Q) X.xe s := by
  have b0 := kb.to s us ws J.kIn (r1.length.symm.trans l1) (r2.length.symm.trans l2)
  have e0 := F0.run X.A X.stack s H ⟨us, ks.zip ws⟩ (g us ws) (gV vs zs) Q D room J.env0 b0 (kb.rel r1 r2) q
  refine wpAny_call (codeAny_mono e0 fun r s' hq => ?_)
  match r, hq with
  | .error e, hq => exact ps0 pins H s e s' J hq
  | .ok (.ret u), hq => exact J.after hq
  | .ok .next, hq => exact hq.elim
  | .ok .brk, hq => exact hq.elim
  | .ok .cont, hq => exact hq.elim
/-- a call with keywords: the positional values in their order, the keywords' values as written, then put in order -/
def eCallK (n m : Nat) (idx : List Nat) (F : List D → AH → ER) (ml mk : LM) : EM := fun env h => (ml env h).then fun ds h1 => (mk env h1).then fun es h2 => if ds.length = n ∧ es.length = m then F (permK idx ds es) h2 else .stuck
section
variable {C : Ct} {k pl n km : Nat} {f : Addr} {fd : FuncData} {ps ks : List Str} {F : List D → AH → ER} {x : Str} {p pos : Pos} {e : Expr} {es : List Expr} {kws : List Keyword} {ml mk : LM} {idx : List Nat}
theorem me_callK (F0 : FnOk C.X.prog C.X.w C.X.K C.X.mg C.X.base (L2.CX C.X.prog C.X.w) k f fd ps (spF C.X.K C.X.mg pl F)) (hr : Room k C.X.A) (hm : C.X.mg x = some (.ref f)) (hk : PySem.W.keepIn C.X.K (.ref f) = true) (hb : KBn C.X.K fd ps n ks (permK idx) (permK idx)) (tk : Takes C.X C.W)
    (ha : MA C (e :: es) ml) (hw : MK C kws mk) (hpl2 : ∀ us ws : List D, us.length = n → ws.length = km → (permK idx us ws).length = pl) (hkm : ks.length = km := by rfl)
    (hall : (backToKw pos (keywordEach kws C.X.env)).all (·.1.isSome) = true := by rfl) (hks : (backToKw pos (keywordEach kws C.X.env)).filterMap (·.1) = ks := by rfl) (hg : Gl C.X x := by rfl) (hdb : (x == ("__debug__" : Str)) = false := by decide) (he : starEach (e :: es) C.X.env = (false, eval e C.X.env) :: starEach es C.X.env := by rfl)
    (hpl : ((backTo pos (starEach (e :: es) C.X.env)).any (·.1) || (backToKw pos (keywordEach kws C.X.env)).any (·.1.isNone)) = false := by rfl) :
    ME C (.Call (.Name x p) (e :: es) kws pos) (eCallK n km idx F ml mk) := by
  subst hkm
  obtain ⟨t, pa, s⟩ := ha
  obtain ⟨t2, pk, s2⟩ := hw
  refine ⟨fun σ H Q => tCallN n ks.length (spF C.X.K C.X.mg pl F) (permK idx) (WE C.W σ) t t2 σ H Q, ⟨fun pins s0 σ H Q I h => ?_⟩, ⟨fun env h σ H ι Q R V q => ?_⟩⟩
  · refine wpAny_Call_Name_kw (ld_glob (x := x) I hg hm ?_ hdb)
    refine PySem.W.callWith_KW (h₀ := C.X.base) I.ok.mod.kin hk hall (thn (pa.run pos pins s0 σ H _ I h) fun us s1 h1 => ?_) hpl he
    obtain ⟨vs, H1, I1, r, q⟩ := h1
    refine thn (pk.run pos pins s1 σ H1 _ I1 q) fun ws s2 h2 => ?_
    obtain ⟨zs, H2, I2, rz, l1, l2, q2⟩ := h2
    refine ⟨I2.kIn, ?_⟩
    rw [hks]
    exact runK F0 hr hb (passAt tk σ) I2 r rz l1 l2 q2
  · refine s.run env h σ H ι _ R V ?_
    unfold eCallK at q
    cases hm : ml env h with
    | ok ds h1 =>
      rw [hm] at q
      refine fun ι' H' vs x R' r => ?_
      refine s2.run env h1 σ H' ι' _ R' (V.ext R x) ?_
      have q1 : PostE C ι h.length H σ ((mk env h1).then fun es h2 => if ds.length = n ∧ es.length = ks.length then F (permK idx ds es) h2 else .stuck) Q := q
      cases hm2 : mk env h1 with
      | ok es h2 =>
        rw [hm2] at q1
        refine fun ι2 H2 zs x2 R2 r2 => ?_
        have q2 : PostE C ι h.length H σ (if ds.length = n ∧ es.length = ks.length then F (permK idx ds es) h2 else .stuck) Q := q1
        by_cases hd : ds.length = n ∧ es.length = ks.length
        · rw [if_pos hd] at q2
          have r3 := permK_RDs (r.mono (x2.grow R')) r2 idx
          refine ⟨by rw [← r.length]; exact hd.1, by rw [← r2.length]; exact hd.2, ?_⟩
          exact spF.of R2 r3 (by rw [← r3.length]; exact hpl2 _ _ hd.1 hd.2) (PostE.shift q2 (x.trans x2))
        · rw [if_neg hd] at q2; exact q2.elim
      | exc c fs h2 =>
        rw [hm2] at q1
        exact fun ι2 H2 Cl dd x2 => q1 ι2 H2 Cl dd (x.trans x2)
      | stuck => rw [hm2] at q1; exact q1
    | exc c fs h1 => rw [hm] at q; exact q
    | stuck => rw [hm] at q; exact q
end
end Rf

/-! enumerate over a tuple -/
namespace Rf
open PySem PySem.Spec PyProof.Rows L2
set_option maxHeartbeats 1000000 in
theorem enumT_new (t : Addr) (its : Array Value) :
    Meets (Builtin.«enumerate.__new__» ⟨[.type "enumerate", .ref t], []⟩) (fun _ R s => s.heap.IsTuple t its ∧
      R (.ok (.ret (.ref (s.heap.push { cls := .type "tuple_iterator", data := .fields #[.ref t, .int 0 0] }).objs.size)))
        { s with heap := (s.heap.push { cls := .type "tuple_iterator", data := .fields #[.ref t, .int 0 0] }).push { cls := .type "enumerate", data := .fields #[.none, .bool false, .ref s.heap.objs.size, rawInt 0, .none, .none] } }) :=
  .of_wp fun prog w A R s hyp => by
    obtain ⟨hp, g, d, tk, os⟩ := s
    obtain ⟨ht, hR⟩ := hyp
    have hT : Heap.IsTuple (Shared.heap ⟨hp, g, d, tk, os⟩) t its := ht
    have hsub := sub_enumerate
    obtain ⟨⟨c0, dc, dt, sl⟩, ho, hc0, n, hd0⟩ := ht
    replace hc0 : c0 = .type "tuple" := hc0
    replace hd0 : dt = .seq its n := hd0
    subst hc0 hd0
    wp_walk using AutoSeq1.wpAny_loadPart' ho
    refine wpAny_stack_any fun st => wpAny_pure ?_
    split
    · rename_i c _ _ _ _ _
      cases (c == Value.type "enumerate")
      · wp_walk using AutoSeq1.wpAny_loadPart' ho, wpAny_pyIter_tuple hT
        exact ⟨_, rfl, hR⟩
      · wp_walk using AutoSeq1.wpAny_loadPart' ho, wpAny_pyIter_tuple hT
        exact ⟨_, rfl, hR⟩
    · wp_walk using AutoSeq1.wpAny_loadPart' ho, wpAny_pyIter_tuple hT
      exact ⟨_, rfl, hR⟩
theorem callEnumT {prog : Program} {w : World} {A : Around} {E : Value → Shared → Prop} {s : Shared} {t : Addr} {its : Array Value} {Q : Value → Shared → Prop} (ht : s.heap.IsTuple t its)
    (k : ∀ h', IsEnum h' (s.heap.objs.size + 1) s.heap.objs.size 0 .none → h'.IsTupleIter s.heap.objs.size t 0 → (∀ b o, s.heap.get? b = some o → h'.get? b = some o) → Q (.ref (s.heap.objs.size + 1)) { s with heap := h' }) :
    wpAny (model prog w) A (call (.type "enumerate") [.ref t]) Q E s := by
  refine callType_new F.called_enumerate (by decide) (F.typeCall_enumerate_1 _) (F.newCall_enumerate_1 _) (fun obj => F.args_object_init_2 obj _) F.entry_enumerate_new (enumT_new t its) ⟨ht, ?_⟩
  generalize hi : (Obj.mk (.type "tuple_iterator") none (.fields #[.ref t, .int 0 0]) #[]) = io
  have hz : (s.heap.push io).objs.size = s.heap.objs.size + 1 := Heap.size_push ..
  show _ ∧ _
  rw [hz]
  have he := Heap.get?_push_size (s.heap.push io) (o := { cls := .type "enumerate", data := .fields #[.none, .bool false, .ref s.heap.objs.size, rawInt 0, .none, .none] }) rfl
  rw [hz] at he
  refine ⟨⟨_, he, rfl⟩, k _ he ⟨io, Heap.get?_push_of_some _ (Heap.get?_push_size _ (by rw [← hi]; rfl)), by rw [← hi], by rw [← hi]; rfl⟩ ?_⟩
  exact fun b o x => Heap.get?_push_of_some _ (Heap.get?_push_of_some _ x)
/-- the tuple at a as it stands, each item with its number in a new pair -/
def IeT (K : PySem.W.Frag) (a : Addr) : It :=
  ⟨fun i H => ∃ (xs : List V) (x : V), SqT K H a xs ∧ xs[i]? = some x, fun i H v H' => ∃ T x, v = .ref T ∧ H T = none ∧ H' = upd H T (.tup [.int (i : Nat), x]) ∧ ∀ xs, SqT K H a xs → xs[i]? = some x, fun i H => ∃ xs : List V, SqT K H a xs ∧ xs.length ≤ i⟩
theorem tup_ne_iter {h : Heap} {a it : Addr} {i : Nat} {its : Array Value} (p : h.IsTuple a its) (q : h.IsTupleIter it a i) : a ≠ it := by
  obtain ⟨o, e1, c1, _⟩ := p
  obtain ⟨o', e2, c2, _⟩ := q
  rintro rfl
  rw [e1] at e2
  cases e2
  exact absurd (Value.type.inj (c1.symm.trans c2)) (by decide)
theorem tup_ne_enum {h : Heap} {a e it : Addr} {i : Int} {old : Value} {its : Array Value} (p : h.IsTuple a its) (q : IsEnum h e it i old) : a ≠ e := by
  obtain ⟨o, e1, c1, _⟩ := p
  rintro rfl
  rw [show h.get? a = _ from q] at e1
  cases e1
  exact absurd (Value.type.inj c1) (by decide)
theorem turn_enumT {P : Program} {w : World} {K : PySem.W.Frag} {elts : List Expr} {kk : Nat} {tpos : Pos} (a e it : Addr) :
    Turn P w K (.Tuple elts kk tpos) (IeT K a) [e, it] e (fun i h => (∃ old, IsEnum h e it ((i : Nat) : Int) old) ∧ h.IsTupleIter it a i ∧ e ≠ it) where
  mem := by simp
  obj := fun i h st b hb => by
    obtain ⟨⟨old, he⟩, ⟨o, ho, _, hd⟩, _⟩ := st
    rcases List.mem_cons.mp hb with z | z
    · subst z; exact ⟨_, he, fun v q => nomatch q⟩
    · rw [List.mem_singleton] at z
      subst z; exact ⟨o, ho, fun v q => by rw [hd] at q; cases q⟩
  keep := fun i h h' st k => by
    obtain ⟨⟨old, he⟩, hi, hne⟩ := st
    exact ⟨⟨old, k e (by simp) _ he⟩, hi.at fun o q => k it (by simp) o q, hne⟩
  item := by
    intro X hP hw hK hc i pins s σ H E I hf st hg
    subst hP hw hK
    obtain ⟨⟨old, he⟩, hit, hne⟩ := st
    obtain ⟨xs, x, hq, hx⟩ := hg
    obtain ⟨its, rv, p, hz⟩ := I.tuple hq
    obtain ⟨u, hu, ru⟩ := rv.get hx
    have p' : s.heap.IsTuple a its.toArray := p
    have hai := tup_ne_iter p' hit
    have hae := tup_ne_enum p' he
    have hel := Heap.lt_size he
    have hil : it < s.heap.objs.size := by
      obtain ⟨_, q, _⟩ := hit
      exact Heap.lt_size q
    have hlt : i < its.toArray.size := by
      have := (List.getElem?_eq_some_iff.mp hu).1
      simpa using this
    refine wpAny_pyNext_enum_itemC (Draws.tuple (A := X.A.in1) (show X.A.in1.handled = none from I.ok.hd hc) it a hai its.toArray) he ⟨hit, p'⟩ hlt hne (by simp; exact ⟨hne, Ne.symm hae⟩) fun y h' tk hy ho hst hT hsz hk => ?_
    obtain rfl : y = u := by
      have : its[i]? = some y := by simpa using hy
      rw [hu] at this; cases this; rfl
    refine ⟨_, rfl, wpAny_letOwnedTupleGo_enum (s := { s with heap := h', toks := tk + 1 }) ho fun h2 he2 sb => ?_⟩
    have hT2 := (sb.2 _ (Nat.ne_of_gt hel)).trans hT
    obtain ⟨T, hTT⟩ : ∃ T, T = s.heap.objs.size := ⟨_, rfl⟩
    rw [← hTT] at hT2 ⊢
    have new : ObjOk X.prog X.w (upd H T (.tup [.int (i : Nat), x])) h2 T (.tup [.int (i : Nat), x]) := by
      refine ⟨by show 2 ≤ sizeLine; decide, [.int i tk, y], .cons ⟨_, rfl⟩ (.cons ru .nil), ⟨_, hT2, rfl, _, rfl⟩⟩
    have kp : ∀ b ob, b ∉ [e, it] → s.heap.get? b = some ob → h2.get? b = some ob := fun b ob hb q =>
      (sb.2 b (fun z => hb (by simp [z]))).trans (hk b ob (fun z => hb (by simp [z])) (fun z => hb (by simp [z])) q)
    have I1 := I.turnedNew (t' := tk + 1) kp hf (by rw [hTT]; exact Nat.le_refl _) new
    have fT : H T = none := I.hok.fresh (by rw [hTT]; exact Nat.le_refl _)
    refine ⟨.ref T, _, I1, rfl, ⟨T, x, rfl, fT, rfl, fun ys hy => by rw [I.tuple_inj hy hq]; exact hx⟩, ⟨⟨y, ?_⟩, ?_, hne⟩, fun b hb => ?_⟩
    · rw [show ((i + 1 : Nat) : Int) = (i : Int) + 1 by omega]; exact he2
    · exact hst.1.at fun o q => (sb.2 it (Ne.symm hne)).trans q
    · have hb' : b < T := by
        rw [hTT]
        rcases List.mem_cons.mp hb with z | z
        · rw [z]; exact hel
        · rw [List.mem_singleton.mp z]; exact hil
      rw [upd_ne (Nat.ne_of_lt hb')]
      exact (hf b hb).1
  done := by
    intro X hP hw hK hc i pins s σ H E I hf st hg
    subst hP hw hK
    obtain ⟨⟨old, he⟩, hit, hne⟩ := st
    obtain ⟨xs, hq, hx⟩ := hg
    obtain ⟨its, rv, p, hz⟩ := I.tuple hq
    have p' : s.heap.IsTuple a its.toArray := p
    obtain ⟨f0, f1, f2, f3, f4, f5⟩ := hf it (by simp)
    have hl := rv.length
    have hh : X.A.in1.handled = none := I.ok.hd hc
    have D : Draws X.prog X.w X.A.in1 it [it, a] i (fun _ _ => True) (fun j h => j = i ∧ h.IsTupleIter it a i ∧ h.IsTuple a its.toArray) := by
      refine ⟨fun j h z => ?_, fun j h h' z k => ?_, fun j s Q E hj z => absurd z.1 (Nat.ne_of_lt hj), fun s Q E z k => ?_⟩
      · obtain ⟨_, ⟨o, ho, _⟩, _⟩ := z
        exact ⟨o, ho⟩
      · exact ⟨z.1, z.2.1.at fun o q => k it (by simp) o q, z.2.2.at fun o q => k a (by simp) o q⟩
      · exact wpAny_nextOf_tuple_end hh z.2.1 z.2.2 (by simp; omega) k
    exact wpAny_pyNext_enum_endD D he ⟨rfl, hit, p'⟩ fun h' eb => ⟨rfl, I.turned (t' := s.toks) (fun b o hb q => eb b o hb q) f0 f1 f3 f4 f5⟩
  self := fun A i s Q E st h => by
    obtain ⟨⟨old, he⟩, _⟩ := st
    exact wpAny_pyIter_enum he h
def iEnumT (K : PySem.W.Frag) (ta : TA) : TI := fun σ H R => ta σ H fun vs H1 => ∃ a xs, vs = [.ref a] ∧ SqT K H1 a xs ∧ R (IeT K a) H1
theorem pi_enumT {X : Cx} {e : Expr} {ta : TA} {p pos tpos : Pos} {elts : List Expr} {kk : Nat} (hg : Gl X "enumerate") (hm : X.mg "enumerate" = none) (ha : PA X [e] ta) (hs : starEach [e] X.env = [(false, eval e X.env)] := by rfl) :
    PI X (.Tuple elts kk tpos) (.Call (.Name "enumerate" p) [e] [] pos) (iEnumT X.K ta) := by
  refine ⟨fun pins s σ H R I h => Call_ (ld_blt I hg hm boot_enumerate (PyProof.Rows.callWith_type1 (thn (ha.run pos pins s σ H _ I h) fun us s1 hyp => ?_) hs rfl))⟩
  obtain ⟨vs, H1, I1, r1, a, xs, ex, hq, q⟩ := hyp
  subst ex
  cases r1 with
  | cons r rr =>
    cases rr
    cases r
    obtain ⟨its, rv, p', hz⟩ := I1.tuple hq
    refine callEnumT p' fun h' he hit hk => wpAny_pyIter_enum he ?_
    obtain ⟨N, hN⟩ : ∃ N, N = s1.heap.objs.size := ⟨_, rfl⟩
    rw [← hN] at he hit ⊢
    have I2 : Inv X pins σ H1 { s1 with heap := h' } := I1.kept (t' := s1.toks) hk
    refine ⟨N + 1, [N + 1, N], _, _, H1, rfl, I2, turn_enumT a (N + 1) N, ⟨⟨.none, he⟩, hit, Nat.succ_ne_self _⟩, fun b hb => ?_, q⟩
    have hle : s1.heap.objs.size ≤ b := by
      rw [← hN]
      rcases List.mem_cons.mp hb with z | z
      · rw [z]; exact Nat.le_succ _
      · rw [List.mem_singleton] at z
        rw [z]; exact Nat.le_refl _
    exact I1.fpOk hle (I1.hok.fresh hle)
/-- the items with their numbers -/
def numD (ds : List D) : List D := ds.mapIdx fun i d => .tup [.int (i : Nat), d]
theorem numD_at {ds : List D} {i : Nat} : (numD ds)[i]? = (ds[i]?).map fun d => .tup [.int (i : Nat), d] := by unfold numD; rw [List.getElem?_mapIdx]
def iEnum1 (m : EM) : IM := fun e h => match m e h with
  | .ok (.tup ds) h1 => .ok (stat (numD ds)) h1
  | .ok _ _ => .stuck
  | .exc c fs h1 => .exc c fs h1
  | .stuck => .stuck
section
variable {C : Ct} {a : Expr} {m : EM} {p pos tpos : Pos} {elts : List Expr} {kk : Nat}
theorem itr_enumT {K : PySem.W.Frag} {ι : Nat → Addr} {h : AH} {H : Hp} {ds : List D} {vs : List V} {a : Addr} (R0 : Rel K ι h H) (q : SqT K H a vs) (r : RDs K ι h.length H ds vs) : ItR K (IeT K a) (stat (numD ds)) ι h.length H := by
  refine itr_stat fun i ι' h' H' x R => ⟨fun e => ⟨vs, R0.sqT x q, ?_⟩, fun d e => ?_⟩
  · rw [numD_at] at e
    rw [← r.length]
    refine List.getElem?_eq_none_iff.mp ?_
    cases hd : ds[i]? with
    | none => rfl
    | some d => rw [hd] at e; cases e
  · rw [numD_at] at e
    cases hd : ds[i]? with
    | none => rw [hd] at e; cases e
    | some d0 =>
      rw [hd] at e
      cases e
      obtain ⟨v, ev, rv⟩ := r.get hd
      refine ⟨⟨vs, v, R0.sqT x q, ev⟩, fun y H2 hy => ?_⟩
      obtain ⟨T, x0, rfl, hT, rfl, hx⟩ := hy
      have e2 := hx vs (R0.sqT x q)
      rw [ev] at e2
      cases e2
      have xx : Ext ι' h'.length H' ι' h'.length (upd H' T (.tup [.int (i : Nat), v])) := Ext.tup hT
      refine ⟨ι', xx, R.tup hT xx, RD.tup.mpr ⟨T, _, rfl, upd_same, ?_⟩⟩
      have rv2 : RD K ι' h'.length H' d0 v := rv.mono (x.grow R0)
      exact RDs.cons' (RD.int.mpr rfl) (RDs.cons' (rv2.mono (xx.grow R)) RDs.nil')
theorem mi_enum1 (hm : C.X.mg "enumerate" = none) (ha : ME C a m) (hg : Gl C.X "enumerate" := by rfl) (hs : starEach [a] C.X.env = [(false, eval a C.X.env)] := by rfl) (na : starEach [a] C.X.env = (false, eval a C.X.env) :: starEach [] C.X.env := by rfl) :
    MI C (.Tuple elts kk tpos) (.Call (.Name "enumerate" p) [a] [] pos) (iEnum1 m) := by
  obtain ⟨t, pa, sa⟩ := ha
  refine ⟨_, pi_enumT hg hm (pa_cons pa pa_nil na) hs, ⟨fun env h σ H ι Q R V p => ?_⟩⟩
  refine sa.run env h σ H ι _ R V ?_
  unfold iEnum1 at p
  cases hm : m env h with
  | exc c fs h1 => rw [hm] at p; exact p
  | stuck => rw [hm] at p; exact p
  | ok d h1 =>
    rw [hm] at p
    cases d with
    | tup ds =>
      refine fun ι' H' v x R' r => ?_
      obtain ⟨a, vs, rfl, s, rr⟩ := RD.tup.mp r
      exact ⟨a, vs, rfl, s, p.here x R' (itr_enumT R' s rr)⟩
    | _ => exact (show False from p).elim
end
end Rf

set_option maxHeartbeats 1000000
/-! sorted of ints -/
namespace Rf
open PySem PySem.Spec PyProof.Rows L2
def intSort (ns : List Int) : List Int := ns.mergeSort fun a b => decide (a ≤ b)
theorem intSort_perm (ns : List Int) : (intSort ns).Perm ns := List.mergeSort_perm _ _
theorem intSort_up (ns : List Int) : (intSort ns).Pairwise (· ≤ ·) := by
  have := List.pairwise_mergeSort (le := fun a b : Int => decide (a ≤ b)) (fun a b c h1 h2 => by simp at *; omega) (fun a b => by simp; omega) ns
  exact this.imp fun h => by simpa using h
theorem intSort_eq {ns ys : List Int} (p : ys.Perm ns) (u : ys.Pairwise (· ≤ ·)) : ys = intSort ns :=
  List.Perm.eq_of_pairwise (le := (· ≤ ·)) (fun a b _ _ h1 h2 => Int.le_antisymm h1 h2) u (intSort_up ns) (p.trans (intSort_perm ns).symm)
/-- the keys of a dict, all ints -/
def keysI : List (Key × D) → Option (List Int)
  | [] => some []
  | (.inl i, _) :: r => (keysI r).map (i :: ·)
  | _ => none
theorem keysI_eq : ∀ {kvs : List (Key × D)} {ns : List Int}, keysI kvs = some ns → kvs.map (·.1) = ns.map Sum.inl
  | [], ns, e => by cases e; rfl
  | (.inl i, d) :: r, ns, e => by
    unfold keysI at e
    cases q : keysI r with
    | none => rw [q] at e; cases e
    | some ms => rw [q] at e; cases e; rw [List.map_cons, List.map_cons, keysI_eq q]
  | (.inr s, d) :: r, ns, e => by cases e
open Classical in
noncomputable def cSorted (ds : List D) (h : AH) : ER := match ds with
  | [.ref i] => (match h[i]? with
    | some (.lst es) => (match intsOf es with
      | some ns => .ok (.ref h.length) (h ++ [.lst ((intSort ns).map D.int)])
      | none => .stuck)
    | some (.dK kvs) => (match keysI kvs with
      | some ns => if ns.length < 64 then .ok (.ref h.length) (h ++ [.lst ((intSort ns).map D.int)]) else .stuck
      | none => .stuck)
    | _ => .stuck)
  | _ => .stuck
theorem RDs.mk_ints {K : PySem.W.Frag} {ι : Nat → Addr} {n : Nat} {H : Hp} : ∀ ns : List Int, RDs K ι n H (ns.map D.int) (ns.map V.int)
  | [] => RDs.nil'
  | n :: ns => RDs.cons' (RD.int.mpr rfl) (RDs.mk_ints ns)
section
variable {C : Ct}
theorem cs_sorted : CallS C (fun vs H Q => rSortedI C.X.K vs H Q ∨ ∃ (a : Addr) (kvs : List (Key × V)) (ks : List Int), vs = [.ref a] ∧ Rd H a (.dK kvs) ∧ kvs.map (·.1) = ks.map Sum.inl ∧ ks.length < 64 ∧
    ∀ (ys : List Int) (p : Addr), ys.Perm ks → ys.Pairwise (· ≤ ·) → H p = none → Q (.ref p) (upd H p (.lst (ys.map V.int)))) cSorted := by
  intro ι h H σ xs ds Q R r p
  unfold cSorted at p
  split at p
  · rename_i i
    obtain ⟨v, rfl, q1⟩ := r.one
    split at p
    · rename_i es e
      split at p
      · rename_i ns e2
        obtain ⟨vs, rfl, e1, rr⟩ := q1.list R e
        have hs : SqL C.X.K H (ι i) vs := SqL.of e1
        rw [intsOf_eq e2] at rr
        rw [rr.ints] at hs
        refine .inl ⟨_, ns, rfl, hs, fun ns' p' pm up hp => ?_⟩
        rw [intSort_eq pm up]
        exact PostE.lst p R (RDs.mk_ints _) hp
      · exact p.elim
    · rename_i kvs e
      split at p
      · rename_i ns e2
        split at p
        · rename_i h64
          have hr := R.ob i _ e
          obtain ⟨ws, hw, hk, rr⟩ := hr
          have ev := RD.ref.mp q1
          refine .inr ⟨ι i, ws, ns, by rw [ev.2], .inl hw, by rw [← hk]; exact keysI_eq e2, h64, fun ys p' pm up hp => ?_⟩
          rw [intSort_eq pm up]
          exact PostE.lst p R (RDs.mk_ints _) hp
        · exact p.elim
      · exact p.elim
    · exact p.elim
  · exact p.elim
theorem cr_sorted2 (hcalm : C.X.calm = true) : CallR C.X (.builtin "sorted") (fun vs H Q => rSortedI C.X.K vs H Q ∨ ∃ (a : Addr) (kvs : List (Key × V)) (ks : List Int), vs = [.ref a] ∧ Rd H a (.dK kvs) ∧ kvs.map (·.1) = ks.map Sum.inl ∧ ks.length < 64 ∧
    ∀ (ys : List Int) (p : Addr), ys.Perm ks → ys.Pairwise (· ≤ ·) → H p = none → Q (.ref p) (upd H p (.lst (ys.map V.int)))) := CallR.or cr_sortedI (call_sortedDI hcalm)
end
end Rf

set_option maxHeartbeats 1000000
/-! dicts whose keys are ints and texts -/
namespace Rf
open PySem PySem.Spec PyProof.Rows L2
def keyD : D → Option Key
  | .int i => some (.inl i)
  | .str s => some (.inr s)
  | _ => none
def valD (kvs : List (Key × D)) (k : Key) : Option D := (kvs.find? fun kv => decide (kv.1 = k)).map (·.2)
def setD (kvs : List (Key × D)) (k : Key) (v : D) : List (Key × D) :=
  if (kvs.any fun kv => decide (kv.1 = k)) = true then kvs.map (fun kv => if kv.1 = k then (kv.1, v) else kv) else kvs ++ [(k, v)]
section
variable {K : PySem.W.Frag} {ι : Nat → Addr} {n : Nat} {H : Hp}
theorem keyD_V {d : D} {k : Key} {v : V} (r : RD K ι n H d v) (e : keyD d = some k) : v = kV k := by
  cases d with
  | int i => cases e; exact RD.int.mp r
  | str s => cases e; exact RD.str.mp r
  | _ => cases e
theorem valD_V : ∀ {kvs : List (Key × D)} {ws : List (Key × V)} (k : Key), kvs.map (·.1) = ws.map (·.1) → RDs K ι n H (kvs.map (·.2)) (ws.map (·.2)) →
    (valD kvs k = none ∧ valV ws k = none) ∨ ∃ d v, valD kvs k = some d ∧ valV ws k = some v ∧ RD K ι n H d v
  | [], [], k, _, _ => .inl ⟨rfl, rfl⟩
  | [], w :: ws, k, e, _ => by cases e
  | kv :: kvs, [], k, e, _ => by cases e
  | kv :: kvs, w :: ws, k, e, r => by
    obtain ⟨v, vs, e1, r1, r2⟩ := RDs.cons.mp r
    rw [List.map_cons] at e1
    injection e1 with e2 e3
    rw [List.map_cons, List.map_cons] at e
    injection e with e4 e5
    rw [← e3] at r2
    have ih := valD_V (kvs := kvs) (ws := ws) k e5 r2
    unfold valD valV at *
    by_cases h : kv.1 = k
    · have h2 : w.1 = k := by rw [← e4]; exact h
      rw [List.find?_cons_of_pos (by simpa using h), List.find?_cons_of_pos (by simpa using h2)]
      exact .inr ⟨kv.2, w.2, rfl, rfl, by rw [e2]; exact r1⟩
    · have h2 : ¬ w.1 = k := by rw [← e4]; exact h
      rw [List.find?_cons_of_neg (by simpa using h), List.find?_cons_of_neg (by simpa using h2)]
      exact ih
theorem any_keys {α β : Type} (k : Key) : ∀ {kvs : List (Key × α)} {ws : List (Key × β)}, kvs.map (·.1) = ws.map (·.1) → (kvs.any fun kv => decide (kv.1 = k)) = ws.any fun kv => decide (kv.1 = k)
  | [], [], _ => rfl
  | [], w :: ws, e => by cases e
  | kv :: kvs, [], e => by cases e
  | kv :: kvs, w :: ws, e => by
    rw [List.map_cons, List.map_cons] at e
    injection e with e4 e5
    rw [List.any_cons, List.any_cons, any_keys k e5, e4]
theorem setD_V {kvs : List (Key × D)} {ws : List (Key × V)} (k : Key) {d : D} {v : V} (e : kvs.map (·.1) = ws.map (·.1)) (r : RDs K ι n H (kvs.map (·.2)) (ws.map (·.2))) (rv : RD K ι n H d v) :
    (setD kvs k d).map (·.1) = (putK ws k v).map (·.1) ∧ RDs K ι n H ((setD kvs k d).map (·.2)) ((putK ws k v).map (·.2)) := by
  unfold setD putK
  rw [any_keys k e]
  by_cases q : (ws.any fun kv => decide (kv.1 = k)) = true
  · rw [if_pos q, if_pos q]
    clear q
    induction kvs generalizing ws with
    | nil =>
      cases ws with
      | nil => exact ⟨rfl, RDs.nil'⟩
      | cons w ws => cases e
    | cons kv kvs ih =>
      cases ws with
      | nil => cases e
      | cons w ws =>
        obtain ⟨v0, vs, e1, r1, r2⟩ := RDs.cons.mp r
        rw [List.map_cons] at e1
        injection e1 with e2 e3
        rw [List.map_cons, List.map_cons] at e
        injection e with e4 e5
        rw [← e3] at r2
        obtain ⟨i1, i2⟩ := ih e5 r2
        by_cases h : kv.1 = k
        · have h2 : w.1 = k := by rw [← e4]; exact h
          simp only [List.map_cons, if_pos h, if_pos h2]
          exact ⟨by rw [e4, i1], RDs.cons' rv i2⟩
        · have h2 : ¬ w.1 = k := by rw [← e4]; exact h
          simp only [List.map_cons, if_neg h, if_neg h2]
          exact ⟨by rw [e4, i1], RDs.cons' (by rw [e2]; exact r1) i2⟩
  · rw [if_neg q, if_neg q]
    rw [List.map_append, List.map_append, List.map_append, List.map_append, e]
    exact ⟨rfl, RDs.append r (RDs.cons' rv RDs.nil')⟩
end
def dictOf (h : AH) : D → Option (List (Key × D))
  | .ref i => match h[i]? with
    | some (.dK kvs) => some kvs
    | _ => none
  | _ => none
theorem dictOf_rel {K : PySem.W.Frag} {ι : Nat → Addr} {h : AH} {H : Hp} {d : D} {v : V} {kvs : List (Key × D)} (R : Rel K ι h H) (r : RD K ι h.length H d v) (e : dictOf h d = some kvs) :
    ∃ i ws, d = .ref i ∧ i < h.length ∧ v = .ref (ι i) ∧ H (ι i) = some (.dK ws) ∧ kvs.map (·.1) = ws.map (·.1) ∧ RDs K ι h.length H (kvs.map (·.2)) (ws.map (·.2)) := by
  unfold dictOf at e
  split at e
  · rename_i i
    split at e
    · rename_i kvs' e2
      cases e
      obtain ⟨ws, hw, hk, rr⟩ := R.ob i _ e2
      have ev := RD.ref.mp r
      exact ⟨i, ws, rfl, ev.1, ev.2, hw, hk, rr⟩
    · cases e
  · cases e
def oDGet (a b : D) (h : AH) : ER := match dictOf h a, keyD b with
  | some kvs, some k => (match valD kvs k with
    | some d => .ok d h
    | none => .stuck)
  | _, _ => .stuck
def oDIn (b a : D) (h : AH) : ER := match dictOf h a, keyD b with
  | some kvs, some k => .ok (.bl (valD kvs k).isSome) h
  | _, _ => .stuck
def oDNotIn (b a : D) (h : AH) : ER := match dictOf h a, keyD b with
  | some kvs, some k => .ok (.bl (!(valD kvs k).isSome)) h
  | _, _ => .stuck
def rDGet : R2 := fun x y H Q => ∃ a v, x = .ref a ∧ DGet H a y (some v) ∧ Q v H
def rDIn : R2 := fun y x H Q => ∃ a o, x = .ref a ∧ DGet H a y o ∧ Q (.bl o.isSome) H
def rDNotIn : R2 := fun y x H Q => ∃ a o, x = .ref a ∧ DGet H a y o ∧ Q (.bl (!o.isSome)) H
open Classical in
noncomputable def putD (o i v : D) (h : AH) : Option AH := match o, dictOf h o, keyD i with
  | .ref r, some kvs, some k => if kvs.length < sizeLine then some (h.set r (.dK (setD kvs k v))) else none
  | _, _, _ => none
section
variable {C : Ct} {a b : Expr} {ma mb : EM} {pos : Pos}
theorem os_dget : OpS C rDGet oDGet := by
  intro ι h H σ x y d1 d2 Q R r1 r2 p
  unfold oDGet at p
  split at p
  · rename_i kvs k e1 e2
    obtain ⟨i, ws, rfl, hi, rfl, hw, hk, rr⟩ := dictOf_rel R r1 e1
    rcases valD_V k hk rr with ⟨q, _⟩ | ⟨d, v, q1, q2, q3⟩
    · rw [q] at p; exact p.elim
    · rw [q1] at p
      refine ⟨ι i, v, rfl, ?_, p.here R q3⟩
      rw [keyD_V r2 e2, ← q2]
      exact DGet.k hw
  · exact p.elim
theorem os_din : OpS C rDIn oDIn := by
  intro ι h H σ x y d1 d2 Q R r1 r2 p
  unfold oDIn at p
  split at p
  · rename_i kvs k e1 e2
    obtain ⟨i, ws, rfl, hi, rfl, hw, hk, rr⟩ := dictOf_rel R r2 e1
    refine ⟨ι i, valV ws k, rfl, by rw [keyD_V r1 e2]; exact DGet.k hw, ?_⟩
    have e3 : (valV ws k).isSome = (valD kvs k).isSome := by
      rcases valD_V k hk rr with ⟨q1, q2⟩ | ⟨d, v, q1, q2, q3⟩ <;> rw [q1, q2] <;> rfl
    rw [e3]
    exact p.here R (RD.bl.mpr rfl)
  · exact p.elim
theorem os_dnotin : OpS C rDNotIn oDNotIn := by
  intro ι h H σ x y d1 d2 Q R r1 r2 p
  unfold oDNotIn at p
  split at p
  · rename_i kvs k e1 e2
    obtain ⟨i, ws, rfl, hi, rfl, hw, hk, rr⟩ := dictOf_rel R r2 e1
    refine ⟨ι i, valV ws k, rfl, by rw [keyD_V r1 e2]; exact DGet.k hw, ?_⟩
    have e3 : (valV ws k).isSome = (valD kvs k).isSome := by
      rcases valD_V k hk rr with ⟨q1, q2⟩ | ⟨d, v, q1, q2, q3⟩ <;> rw [q1, q2] <;> rfl
    rw [e3]
    exact p.here R (RD.bl.mpr rfl)
  · exact p.elim
theorem me_dget (hu : C.X.A.units + 1 < cLine) (ha : ME C a ma) (hb : ME C b mb) (hs : NoSl b := by intro _ _; rfl) : ME C (.Subscript a b pos) (eOp oDGet ma mb) := by
  obtain ⟨ta, pa, sa⟩ := ha
  obtain ⟨tb, pb, sb⟩ := hb
  exact ⟨_, pe_dget hu pa pb hs, sa.op sb os_dget⟩
theorem ss_dict : SetS C rSetD putD := by
  intro ι h H x y z d1 d2 d3 h' Q R r1 r2 r3 e k
  unfold putD at e
  split at e
  · rename_i r kvs key e2 e1
    split at e
    · rename_i hl
      cases e
      obtain ⟨i, ws, ei, hi, rfl, hw, hk, rr⟩ := dictOf_rel R r1 e1
      cases ei
      have ll : ws.length < sizeLine := by
        have := congrArg List.length hk
        rw [List.length_map, List.length_map] at this
        exact Nat.lt_of_le_of_lt (Nat.le_of_eq this.symm) hl
      refine ⟨ι r, _, rfl, by rw [keyD_V r2 e2]; exact DPut.k hw ll, ?_⟩
      refine k ι _ (by rw [List.length_set]; exact Ext.put R hi) (R.put hi fun xx => ⟨_, upd_same, ?_⟩)
      obtain ⟨s1, s2⟩ := setD_V key hk rr r3
      exact ⟨s1, s2.mono (xx.grow R)⟩
    · cases e
  · cases e
/-- {} -/
def eDict : EM := fun _ h => .ok (.ref h.length) (h ++ [.dK []])
theorem me_dict : ME C (.Dict [] [] pos) eDict := by
  refine ⟨_, pe_dnewK, ⟨fun env h σ H ι Q R V p => fun a ha => ?_⟩⟩
  have el : (h ++ [AO.dK []]).length = h.length + 1 := by simp
  have x : Ext ι h.length H (ιset ι h.length a) (h.length + 1) (upd H a (.dK [])) := Ext.new ha
  refine p (ιset ι h.length a) _ (.ref a) (by rw [el]; exact x) (R.new ha fun x => ⟨[], upd_same, rfl, RDs.nil'⟩) ?_
  rw [el]
  exact RD.ref.mpr ⟨Nat.lt_succ_self _, by rw [ιset_same]⟩
end
end Rf

set_option maxHeartbeats 1000000
/-! tests on dicts, a list turned round -/
namespace Rf
open PySem PySem.Spec PyProof.Rows L2
section
variable {C : Ct} {a b : Expr} {ma mb : EM} {pos : Pos}
theorem me_din (hu : C.X.A.units + 1 < cLine) (ha : ME C a ma) (hb : ME C b mb) (hm : behindInMarks .In b = false := by rfl) : ME C (.Compare a [.In] [b] pos) (eOp oDIn ma mb) := by
  obtain ⟨ta, pa, sa⟩ := ha
  obtain ⟨tb, pb, sb⟩ := hb
  exact ⟨_, pe_cmp (pc_din hu pa pb) hm, sa.op sb os_din⟩
theorem me_dnotin (hu : C.X.A.units + 1 < cLine) (ha : ME C a ma) (hb : ME C b mb) (hm : behindInMarks .NotIn b = false := by rfl) : ME C (.Compare a [.NotIn] [b] pos) (eOp oDNotIn ma mb) := by
  obtain ⟨ta, pa, sa⟩ := ha
  obtain ⟨tb, pb, sb⟩ := hb
  exact ⟨_, pe_cmp (pc_dnotin hu pa pb) hm, sa.op sb os_dnotin⟩
theorem mt_din (hu : C.X.A.units + 1 < cLine) (ha : ME C a ma) (hb : ME C b mb) (hm : behindInMarks .In b = false := by rfl) : MT C (.Compare a [.In] [b] pos) (eOp oDIn ma mb) := by
  obtain ⟨ta, pa, sa⟩ := ha
  obtain ⟨tb, pb, sb⟩ := hb
  exact ⟨_, pt_cmp (pc_din hu pa pb) hm, (sa.op sb os_din).test⟩
theorem mt_dnotin (hu : C.X.A.units + 1 < cLine) (ha : ME C a ma) (hb : ME C b mb) (hm : behindInMarks .NotIn b = false := by rfl) : MT C (.Compare a [.NotIn] [b] pos) (eOp oDNotIn ma mb) := by
  obtain ⟨ta, pa, sa⟩ := ha
  obtain ⟨tb, pb, sb⟩ := hb
  exact ⟨_, pt_cmp (pc_dnotin hu pa pb) hm, (sa.op sb os_dnotin).test⟩
/-- xs[::-1] of a list -/
def eRev (m : EM) : EM := fun env h => (m env h).then fun d h1 => match listOf h1 d with
  | some ds => .ok (.ref h1.length) (h1 ++ [.lst ds.reverse])
  | none => .stuck
theorem RDs.rev {K : PySem.W.Frag} {ι : Nat → Addr} {n : Nat} {H : Hp} : ∀ {ds : List D} {vs : List V}, RDs K ι n H ds vs → RDs K ι n H ds.reverse vs.reverse
  | [], vs, r => by rw [RDs.nil.mp r]; exact RDs.nil'
  | d :: ds, vs, r => by
    obtain ⟨v, vs', rfl, r1, r2⟩ := RDs.cons.mp r
    rw [List.reverse_cons, List.reverse_cons]
    exact RDs.append (RDs.rev r2) (RDs.cons' r1 RDs.nil')
theorem me_rev {k : Nat} {p1 p2 p3 : Pos} (ha : ME C a ma) : ME C (.Subscript a (.Slice none none (some (.UnaryOp .USub (.Constant (.int 1) k p1) p2)) p3) pos) (eRev ma) := by
  obtain ⟨ta, pa, sa⟩ := ha
  refine ⟨_, pe_revL pa, ⟨fun env h σ H ι Q R V p => ?_⟩⟩
  refine sa.then R V p fun d1 h1 ι1 H1 v1 x1 R1 V1 r1 p1 => ?_
  split at p1
  · rename_i ds e
    obtain ⟨a, vs, rfl, s, rr⟩ := listOf_sq R1 r1 e
    exact ⟨a, vs, rfl, s, fun l hl => PostE.lst p1 R1 (RDs.rev rr) hl⟩
  · exact p1.elim
end
end Rf

set_option maxHeartbeats 1000000
/-! comprehensions with two fors: the new list stands among the things from the start -/
namespace Rf
open PySem PySem.Spec PyProof.Rows L2
noncomputable def app1 (r : Nat) (d : D) (h : AH) : Option AH := match h[r]? with
  | some (.lst ds) => if FitsL ds.length then some (h.set r (.lst (ds ++ [d]))) else none
  | _ => none
noncomputable def lcI (it : AIt) (g : GM) (tt te : EM) (e0 : AE) (r : Nat) : Nat → Nat → AH → Option AH
  | 0, _, _ => none
  | k + 1, i, h => match it.nxt i h with
    | some none => some h
    | some (some d) => (match g d e0 h with
      | .nx e1 h1 => (match tt e1 h1 with
        | .ok (.bl true) h2 => (match te e1 h2 with
          | .ok d2 h3 => (match app1 r d2 h3 with
            | some h4 => lcI it g tt te e0 r k (i + 1) h4
            | none => none)
          | _ => none)
        | .ok (.bl false) h2 => lcI it g tt te e0 r k (i + 1) h2
        | _ => none)
      | _ => none)
    | none => none
noncomputable def lcO (it : AIt) (g : GM) (tt : EM) (mi1 : IM) (g1 : GM) (tt1 te : EM) (vs1 : List Nat) (e0 : AE) (r : Nat) : Nat → Nat → AH → Option AH
  | 0, _, _ => none
  | k + 1, i, h => match it.nxt i h with
    | some none => some h
    | some (some d) => (match g d e0 h with
      | .nx e1 h1 => (match tt e1 h1 with
        | .ok (.bl true) h2 => (match mi1 e1 h2 with
          | .ok it1 h3 => (match lcI it1 g1 tt1 te (wipeE e1 vs1) r (it1.n + 1) 0 h3 with
            | some h4 => lcO it g tt mi1 g1 tt1 te vs1 e0 r k (i + 1) h4
            | none => none)
          | _ => none)
        | .ok (.bl false) h2 => lcO it g tt mi1 g1 tt1 te vs1 e0 r k (i + 1) h2
        | _ => none)
      | _ => none)
    | none => none
noncomputable def eLc2 (mi : IM) (g : GM) (tt : EM) (mi1 : IM) (g1 : GM) (tt1 te : EM) (vs vs1 : List Nat) : EM := fun e h => match mi e h with
  | .ok it h1 => (match lcO it g tt mi1 g1 tt1 te vs1 (wipeE e vs) h1.length (it.n + 1) 0 (h1 ++ [.lst []]) with
    | some h2 => .ok (.ref h1.length) h2
    | none => .stuck)
  | .exc c fs h1 => .exc c fs h1
  | .stuck => .stuck
def canI (C : Ct) (m : IM) : TI := fun σ H Q => ∃ env h ι, Rel C.X.K ι h H ∧ RV C ι h.length H env σ ∧ PostI C ι h.length H σ (m env h) Q
theorem MI.can {C : Ct} {tg e : Expr} {m : IM} (h : MI C tg e m) : PI C.X tg e (canI C m) := by
  obtain ⟨t, p, s⟩ := h
  exact ⟨fun pins st σ H Q I ⟨env, h, ι, R, V, q⟩ => p.run pins st σ H Q I (s.run env h σ H ι Q R V q)⟩
section
variable {C : Ct} {elt tg iter tg1 iter1 : Expr} {ifs ifs1 : List Expr} {scope : Scope} {own : List (Str × Nat)} {vs1 : List Nat} {pos : Pos} {mi mi1 : IM} {g g1 : GM} {t t1 : TG} {mt mt1 me : EM}
theorem SimE.lc2 {ti : TI} (si : SimI C ti mi) (sg : ∀ s H Cc cl fp, SimG (C.blk s H scope Cc cl fp) t g ∧ OnlyAt t (own.map (·.2))) (sg1 : ∀ s H Cc cl fp, SimG (C.blk s H scope Cc cl fp) t1 g1 ∧ OnlyAt t1 vs1) :
    SimE C (tLc2 ti t (canT C.flat mt) (canI C.flat mi1) t1 (canT C.flat mt1) (canE C.flat me) (own.map (·.2)) vs1) (eLc2 mi g mt mi1 g1 mt1 me (own.map (·.2)) vs1) := by
  refine ⟨fun env h σ H ι Q R V p => ?_⟩
  refine si.run env h σ H ι _ R V ?_
  unfold eLc2 at p
  cases hm : mi env h with
  | exc c fs h1 => rw [hm] at p; exact p
  | stuck => rw [hm] at p; exact p
  | ok it h1 =>
    rw [hm] at p
    dsimp only at p
    refine fun ι0 H0 J x0 R0 J0 Dp hD => ?_
    have V0 := V.ext R x0
    cases hl : lcO it g mt mi1 g1 mt1 me vs1 (wipeE env (own.map (·.2))) h1.length (it.n + 1) 0 (h1 ++ [.lst []]) with
    | none => rw [hl] at p; exact (show False from p).elim
    | some hF =>
      rw [hl] at p
      dsimp only at p
      have el : (h1 ++ [AO.lst []]).length = h1.length + 1 := by simp
      have xn : Ext ι0 h1.length H0 (ιset ι0 h1.length Dp) (h1.length + 1) (upd H0 Dp (.lst [])) := Ext.new hD
      have Rn : Rel C.X.K (ιset ι0 h1.length Dp) (h1 ++ [.lst []]) (upd H0 Dp (.lst [])) := R0.new hD fun x => ⟨[], upd_same, RDs.nil'⟩
      refine ⟨fun i m H => ∃ h ι, Ext (ιset ι0 h1.length Dp) (h1.length + 1) (upd H0 Dp (.lst [])) ι h.length H ∧ Rel C.X.K ι h H ∧ RE C.X.K ι h.length H (wipeE env (own.map (·.2))) (L2.wipe σ (own.map (·.2))) ∧
        lcO it g mt mi1 g1 mt1 me vs1 (wipeE env (own.map (·.2))) h1.length m i h = some hF,
        ⟨it.n + 1, h1 ++ [.lst []], ιset ι0 h1.length Dp, by rw [el]; exact .refl, Rn, by rw [el]; exact (V0.re.wipe _).mono (xn.grow R0), hl⟩, ?_⟩
      rintro i m H ⟨h, ι', x, R, E, hq⟩
      cases m with
      | zero => cases hq
      | succ m =>
        obtain ⟨j1, j2⟩ := J0 i ι' h H (xn.trans x) R
        unfold lcO at hq
        cases hn : it.nxt i h with
        | none => rw [hn] at hq; cases hq
        | some od =>
          rw [hn] at hq
          cases od with
          | none =>
            cases hq
            refine .inl ⟨j1 hn, p ι' H (.ref Dp) (x0.trans (xn.trans x)) R (RD.ref.mpr ⟨?_, ?_⟩)⟩
            · have := x.le; omega
            · rw [x.ag _ (by omega), ιset_same]
          | some d =>
            dsimp only at hq
            obtain ⟨go, y⟩ := j2 d hn
            refine .inr ⟨go, _, fun H' hN => ⟨m, Nat.lt_succ_self m, hN⟩, fun xv H2 hy => ?_⟩
            obtain ⟨ι2, x2, R2, r2⟩ := y xv H2 hy
            have E2 := E.mono (x2.grow R)
            have sgo := sg C.X.s_0 H2 0 [] []
            cases hgd : g d (wipeE env (own.map (·.2))) h with
            | nx e3 h3 =>
              rw [hgd] at hq
              dsimp only at hq
              refine sgo.2.at_ (wipe_wipe fun _ h => h) (sgo.1.run d xv _ h _ H2 ι2 _ R2 ⟨E2, trivial⟩ r2 ?_)
              rw [hgd]
              refine fun ι3 H3 σ3 x3 R3 V3 => ?_
              have V3' : RV C.flat ι3 h3.length H3 e3 σ3 := ⟨V3.re, trivial⟩
              have E3 := E2.mono (x3.grow R2)
              refine ⟨e3, h3, ι3, R3, V3', ?_⟩
              cases htt : mt e3 h3 with
              | ok db h4 =>
                rw [htt] at hq
                cases db with
                | bl b =>
                  refine ⟨b, rfl, fun ι4 H4 x4 R4 => ?_⟩
                  have xx := x.trans (x2.trans (x3.trans x4))
                  have E4 := E3.mono (x4.grow R3)
                  have V4 := V3'.ext R3 x4
                  cases b with
                  | false =>
                    dsimp only at hq
                    refine iteF ?_
                    exact ⟨h4, ι4, xx, R4, E4, hq⟩
                  | true =>
                    dsimp only at hq
                    refine iteT ?_
                    refine ⟨e3, h4, ι4, R4, V4, ?_⟩
                    cases hmi : mi1 e3 h4 with
                    | exc c fs h5 => rw [hmi] at hq; cases hq
                    | stuck => rw [hmi] at hq; cases hq
                    | ok it1 h5 =>
                      rw [hmi] at hq
                      dsimp only at hq
                      refine fun ι5 H5 J1 x5 R5 J15 => ?_
                      have E5 := E4.mono (x5.grow R4)
                      have V5 := V4.ext R4 x5
                      cases hli : lcI it1 g1 mt1 me (wipeE e3 vs1) h1.length (it1.n + 1) 0 h5 with
                      | none => rw [hli] at hq; cases hq
                      | some hG =>
                        rw [hli] at hq
                        dsimp only at hq
                        refine ⟨fun j k H => ∃ h ι, Ext ι5 h5.length H5 ι h.length H ∧ Rel C.X.K ι h H ∧ RE C.X.K ι h.length H (wipeE env (own.map (·.2))) (L2.wipe σ (own.map (·.2))) ∧ RE C.X.K ι h.length H (wipeE e3 vs1) (L2.wipe σ3 vs1) ∧
                          lcI it1 g1 mt1 me (wipeE e3 vs1) h1.length k j h = some hG, ⟨it1.n + 1, h5, ι5, .refl, R5, E5, V5.re.wipe _, hli⟩, ?_⟩
                        rintro j k H ⟨h, ι', xi, R, E, Ei, hqi⟩
                        cases k with
                        | zero => cases hqi
                        | succ k =>
                          obtain ⟨k1, k2⟩ := J15 j ι' h H xi R
                          unfold lcI at hqi
                          cases hn1 : it1.nxt j h with
                          | none => rw [hn1] at hqi; cases hqi
                          | some od1 =>
                            rw [hn1] at hqi
                            cases od1 with
                            | none =>
                              cases hqi
                              exact .inl ⟨k1 hn1, hG, ι', xx.trans (x5.trans xi), R, E, hq⟩
                            | some d1 =>
                              dsimp only at hqi
                              obtain ⟨go1, y1⟩ := k2 d1 hn1
                              refine .inr ⟨go1, _, fun H' hN => ⟨k, Nat.lt_succ_self k, hN⟩, fun xv1 H6 hy1 => ?_⟩
                              obtain ⟨ι6, x6, R6, r6⟩ := y1 xv1 H6 hy1
                              have E6 := E.mono (x6.grow R)
                              have Ei6 := Ei.mono (x6.grow R)
                              have sgo1 := sg1 C.X.s_0 H6 0 [] []
                              cases hgd1 : g1 d1 (wipeE e3 vs1) h with
                              | nx e7 h7 =>
                                rw [hgd1] at hqi
                                dsimp only at hqi
                                refine sgo1.2.at_ (wipe_wipe fun _ h => h) (sgo1.1.run d1 xv1 _ h _ H6 ι6 _ R6 ⟨Ei6, trivial⟩ r6 ?_)
                                rw [hgd1]
                                refine fun ι7 H7 σ7 x7 R7 V7 => ?_
                                have V7' : RV C.flat ι7 h7.length H7 e7 σ7 := ⟨V7.re, trivial⟩
                                have E7 := E6.mono (x7.grow R6)
                                have Ei7 := Ei6.mono (x7.grow R6)
                                refine ⟨e7, h7, ι7, R7, V7', ?_⟩
                                cases htt1 : mt1 e7 h7 with
                                | ok db1 h8 =>
                                  rw [htt1] at hqi
                                  cases db1 with
                                  | bl b1 =>
                                    refine ⟨b1, rfl, fun ι8 H8 x8 R8 => ?_⟩
                                    have E8 := E7.mono (x8.grow R7)
                                    have Ei8 := Ei7.mono (x8.grow R7)
                                    have x68 := xi.trans (x6.trans (x7.trans x8))
                                    cases b1 with
                                    | false =>
                                      dsimp only at hqi
                                      refine iteF ?_
                                      exact ⟨h8, ι8, x68, R8, E8, Ei8, hqi⟩
                                    | true =>
                                      dsimp only at hqi
                                      refine iteT ?_
                                      refine ⟨e7, h8, ι8, R8, V7'.ext R7 x8, ?_⟩
                                      cases hte : me e7 h8 with
                                      | exc c fs h9 => rw [hte] at hqi; cases hqi
                                      | stuck => rw [hte] at hqi; cases hqi
                                      | ok d9 h9 =>
                                        rw [hte] at hqi
                                        dsimp only at hqi
                                        refine fun ι9 H9 v9 x9 R9 r9 => ?_
                                        have E9 := E8.mono (x9.grow R8)
                                        have Ei9 := Ei8.mono (x9.grow R8)
                                        have x99 := x68.trans x9
                                        cases ha : app1 h1.length d9 h9 with
                                        | none => rw [ha] at hqi; cases hqi
                                        | some hA =>
                                          rw [ha] at hqi
                                          dsimp only at hqi
                                          unfold app1 at ha
                                          cases hr : h9[h1.length]? with
                                          | none => rw [hr] at ha; cases ha
                                          | some o =>
                                            rw [hr] at ha
                                            cases o with
                                            | lst ds =>
                                              dsimp only at ha
                                              by_cases hz : FitsL ds.length
                                              · rw [if_pos hz] at ha
                                                cases ha
                                                obtain ⟨ws, hw, rr⟩ := R9.ob _ _ hr
                                                have hi9 := (List.getElem?_eq_some_iff.mp hr).1
                                                have xall := xx.trans (x5.trans x99)
                                                have eD : ι9 h1.length = Dp := by rw [xall.ag _ (by omega), ιset_same]
                                                rw [eD] at hw
                                                have xp : Ext ι9 h9.length H9 ι9 h9.length (upd H9 (ι9 h1.length) (.lst (ws ++ [v9]))) := Ext.put R9 hi9
                                                have Rp : Rel C.X.K ι9 (h9.set h1.length (.lst (ds ++ [d9]))) (upd H9 (ι9 h1.length) (.lst (ws ++ [v9]))) := R9.put hi9 fun xq => ⟨_, upd_same, RDs.append (rr.mono (xq.grow R9)) (RDs.cons' (r9.mono (xq.grow R9)) RDs.nil')⟩
                                                rw [eD] at xp Rp
                                                have ls : (h9.set h1.length (AO.lst (ds ++ [d9]))).length = h9.length := List.length_set ..
                                                refine ⟨ws, hw, by rw [← rr.length]; exact hz, _, ι9, by rw [ls]; exact x99.trans xp, Rp, by rw [ls]; exact E9.mono (xp.grow R9), by rw [ls]; exact Ei9.mono (xp.grow R9), hqi⟩
                                              · rw [if_neg hz] at ha; cases ha
                                            | _ => cases ha
                                  | _ => cases hqi
                                | exc c fs h8 => rw [htt1] at hqi; cases hqi
                                | stuck => rw [htt1] at hqi; cases hqi
                              | _ => rw [hgd1] at hqi; cases hqi
                | _ => cases hq
              | exc c fs h4 => rw [htt] at hq; cases hq
              | stuck => rw [htt] at hq; cases hq
            | _ => rw [hgd] at hq; cases hq
theorem me_lc2 (hc : C.X.calm = true) (hN : C.X.N.Nodup) (hi : MI C tg iter mi) (ok : BlkOk C.X.N C.X.env.scope scope own) (hv : ∀ i ∈ vs1, i ∈ own.map (·.2))
    (hg : ∀ s H Cc cl fp, MGc (C.blk s H scope Cc cl fp) tg g t (own.map (·.2))) (ht : ∀ s H Cc cl fp, MTs (C.blk s H scope Cc cl fp) ifs mt)
    (hi1 : ∀ s H Cc cl fp, MI (C.blk s H scope Cc cl fp) tg1 iter1 mi1) (hg1 : ∀ s H Cc cl fp, MGc (C.blk s H scope Cc cl fp) tg1 g1 t1 vs1) (ht1 : ∀ s H Cc cl fp, MTs (C.blk s H scope Cc cl fp) ifs1 mt1)
    (he : ∀ s H Cc cl fp, ME (C.blk s H scope Cc cl fp) elt me) (hs : ∀ x, foldedSetIterable iter C.X.env x = pure x := by intro _; rfl) (hs1 : ∀ env x, foldedSetIterable iter1 env x = pure x := by intro _ _; rfl) :
    ME C (.ListComp elt [⟨tg, iter, ifs, 0⟩, ⟨tg1, iter1, ifs1, 0⟩] scope pos) (eLc2 mi g mt mi1 g1 mt1 me (own.map (·.2)) vs1) := by
  obtain ⟨ti, pi, si⟩ := hi
  exact ⟨_, pe_lc2 hc hN pi ok hv (fun s H Cc cl fp => (hg s H Cc cl fp).1) (fun s H Cc cl fp => (ht s H Cc cl fp).can) (fun s H Cc cl fp => (hi1 s H Cc cl fp).can) (fun s H Cc cl fp => (hg1 s H Cc cl fp).1) (fun s H Cc cl fp => (ht1 s H Cc cl fp).can) (fun s H Cc cl fp => (he s H Cc cl fp).can) hs hs1,
    SimE.lc2 si (fun s H Cc cl fp => (hg s H Cc cl fp).2) (fun s H Cc cl fp => (hg1 s H Cc cl fp).2)⟩
theorem ms_setLc2 {i : Nat} {y : Str} {py spos : Pos} (hc : C.X.calm = true) (hN : C.X.N.Nodup) (hy : C.X.N[i]? = some y) (hyl : C.X.env.scope.names.lookup y = some .local)
    (hsw : swapsWith (.ListComp elt [⟨tg, iter, ifs, 0⟩, ⟨tg1, iter1, ifs1, 0⟩] scope pos) (some (.Name y py)) spos.line C.X.env = pure true) (hi : MI C tg iter mi) (ok : BlkOk C.X.N C.X.env.scope scope own) (hv : ∀ i ∈ vs1, i ∈ own.map (·.2))
    (hg : ∀ s H Cc cl fp, MGc (C.blk s H scope Cc cl fp) tg g t (own.map (·.2))) (ht : ∀ s H Cc cl fp, MTs (C.blk s H scope Cc cl fp) ifs mt)
    (hi1 : ∀ s H Cc cl fp, MI (C.blk s H scope Cc cl fp) tg1 iter1 mi1) (hg1 : ∀ s H Cc cl fp, MGc (C.blk s H scope Cc cl fp) tg1 g1 t1 vs1) (ht1 : ∀ s H Cc cl fp, MTs (C.blk s H scope Cc cl fp) ifs1 mt1)
    (he : ∀ s H Cc cl fp, ME (C.blk s H scope Cc cl fp) elt me) (hne : ∀ y, C.ea = some y → y.i ≠ i := by exact fun _ z => nomatch z) (hs : ∀ x, foldedSetIterable iter C.X.env x = pure x := by intro _; rfl) (hs1 : ∀ env x, foldedSetIterable iter1 env x = pure x := by intro _ _; rfl) :
    MS C (.Assign [.Name y py] (.ListComp elt [⟨tg, iter, ifs, 0⟩, ⟨tg1, iter1, ifs1, 0⟩] scope pos) spos) (sSet i (eLc2 mi g mt mi1 g1 mt1 me (own.map (·.2)) vs1)) := by
  obtain ⟨ti, pi, si⟩ := hi
  refine ⟨_, ps_setLc2 (te := canE C.flat me) (tt := canT C.flat mt) (tt1 := canT C.flat mt1) (wi1 := canI C.flat mi1) hc hN hy hyl hsw pi ok hv (fun s H Cc cl fp => (hg s H Cc cl fp).1) (fun s H Cc cl fp => (ht s H Cc cl fp).can) (fun s H Cc cl fp => (hi1 s H Cc cl fp).can) (fun s H Cc cl fp => (hg1 s H Cc cl fp).1) (fun s H Cc cl fp => (ht1 s H Cc cl fp).can) (fun s H Cc cl fp => (he s H Cc cl fp).can) hs hs1, ⟨fun env h σ H ι D R V p => ?_⟩⟩
  have s1 : SimE C _ (eLc2 mi g mt mi1 g1 mt1 me (own.map (·.2)) vs1) := SimE.lc2 si (fun s H Cc cl fp => (hg s H Cc cl fp).2) (fun s H Cc cl fp => (hg1 s H Cc cl fp).2)
  exact s1.thenS R V p fun d h1 ι1 H1 v1 x1 R1 V1 r1 p1 => p1 ι1 H1 _ .refl R1 (V1.set i r1 hne)
end
end Rf

set_option maxHeartbeats 1000000
/-! built-in functions called with keywords: sorted(xs, reverse=True) of ints -/
namespace Rf
open PySem PySem.Spec PyProof.Rows L2
def CallSK (C : Ct) (r : List V → List V → Hp → VK → Prop) (g : List D → List D → AH → ER) : Prop := ∀ (ι : Nat → Addr) (h : AH) (H : Hp) (σ : List (Option V)) (xs zs : List V) (ds es : List D) (Q : VK), Rel C.X.K ι h H → RDs C.X.K ι h.length H ds xs → RDs C.X.K ι h.length H es zs → PostE C ι h.length H σ (g ds es h) Q → r xs zs H Q
def eCallBK (g : List D → List D → AH → ER) (ml mk : LM) : EM := fun env h => (ml env h).then fun ds h1 => (mk env h1).then fun es h2 => g ds es h2
section
variable {C : Ct} {x : Str} {p pos : Pos} {e : Expr} {es : List Expr} {kws : List Keyword} {id : String} {ks : List Str} {r : List V → List V → Hp → VK → Prop} {g : List D → List D → AH → ER} {ml mk : LM}
theorem me_callBK (hc : CallRK C.X (.builtin id) ks r) (hs : CallSK C r g) (hm : C.X.mg x = none) (ha : MA C (e :: es) ml) (hw : MK C kws mk) (hv : bootBuiltins x = some (.builtin id) := by decide +kernel) (hg : Gl C.X x := by rfl) (hn : x ≠ "__name__" := by decide) (hdb : (x == ("__debug__" : Str)) = false := by decide)
    (he : backTo pos (starEach (e :: es) C.X.env) = (false, eval e C.X.env) :: backTo pos (starEach es C.X.env) := by rfl) (hpl : (backTo pos (starEach (e :: es) C.X.env)).any (·.1) = false := by rfl)
    (hall : (backToKw pos (keywordEach kws C.X.env)).all (·.1.isSome) = true := by rfl) (hnone : (backToKw pos (keywordEach kws C.X.env)).any (·.1.isNone) = false := by rfl) (hks : (backToKw pos (keywordEach kws C.X.env)).filterMap (·.1) = ks := by rfl) :
    ME C (.Call (.Name x p) (e :: es) kws pos) (eCallBK g ml mk) := by
  obtain ⟨t, pa, s⟩ := ha
  obtain ⟨t2, pk, s2⟩ := hw
  refine ⟨_, pe_callBK hc hg hm hv pa pk hn hdb he hpl hall hnone hks, ⟨fun env h σ H ι Q R V q => ?_⟩⟩
  refine s.run env h σ H ι _ R V ?_
  unfold eCallBK at q
  cases hm : ml env h with
  | ok ds h1 =>
    rw [hm] at q
    refine fun ι' H' vs x R' r => ?_
    refine s2.run env h1 σ H' ι' _ R' (V.ext R x) ?_
    have q1 : PostE C ι h.length H σ ((mk env h1).then fun es h2 => g ds es h2) Q := q
    cases hm2 : mk env h1 with
    | ok es h2 =>
      rw [hm2] at q1
      refine fun ι2 H2 zs x2 R2 r2 => ?_
      exact hs ι2 h2 H2 σ vs zs ds es Q R2 (r.mono (x2.grow R')) r2 (PostE.shift q1 (x.trans x2))
    | exc c fs h2 =>
      rw [hm2] at q1
      exact fun ι2 H2 Cl dd x2 => q1 ι2 H2 Cl dd (x.trans x2)
    | stuck => rw [hm2] at q1; exact q1
  | exc c fs h1 => rw [hm] at q; exact q
  | stuck => rw [hm] at q; exact q
/-- sorted(xs, reverse=b) -/
noncomputable def cSortedR (ds es : List D) (h : AH) : ER := match ds, es with
  | [.ref i], [.bl b] => (match h[i]? with
    | some (.lst us) => (match intsOf us with
      | some ns => .ok (.ref h.length) (h ++ [.lst ((if b then (intSort ns).reverse else intSort ns).map D.int)])
      | none => .stuck)
    | _ => .stuck)
  | _, _ => .stuck
theorem intSort_rev {ns ys : List Int} (p : ys.Perm ns) (u : ys.Pairwise (· ≥ ·)) : ys = (intSort ns).reverse := by
  have := intSort_eq (ns := ns) (ys := ys.reverse) ((List.reverse_perm ys).trans p) (by rw [List.pairwise_reverse]; exact u)
  rw [← this, List.reverse_reverse]
theorem cr_sortedRv : CallRK C.X (.builtin "sorted") [Str.ofString "reverse"] (fun vs zs H Q => ∃ b, rSortedKw C.X.K b [.bl b] vs zs H Q) := by
  intro pins s σ H vs zs us ws Q I r rz h
  obtain ⟨b, h⟩ := h
  exact cr_sortedRev pins s σ H vs zs us ws Q I r rz h
theorem cs_sortedR : CallSK C (fun vs zs H Q => ∃ b, rSortedKw C.X.K b [.bl b] vs zs H Q) cSortedR := by
  intro ι h H σ xs zs ds es Q R r rz p
  unfold cSortedR at p
  split at p
  · rename_i i b
    obtain ⟨v, rfl, q1⟩ := r.one
    obtain ⟨z, rfl, q2⟩ := rz.one
    split at p
    · rename_i us e
      split at p
      · rename_i ns e2
        obtain ⟨vs, rfl, e1, rr⟩ := q1.list R e
        have hs : SqL C.X.K H (ι i) vs := SqL.of e1
        rw [intsOf_eq e2] at rr
        rw [rr.ints] at hs
        refine ⟨b, _, ns, rfl, by rw [RD.bl.mp q2], hs, fun ns' p' pm up hp => ?_⟩
        have en : ns' = (if b then (intSort ns).reverse else intSort ns) := by
          cases b with
          | true => exact intSort_rev pm up
          | false => exact intSort_eq pm up
        rw [en]
        exact PostE.lst p R (RDs.mk_ints _) hp
      · exact p.elim
    · exact p.elim
  · exact p.elim
end
/-- a def of the module that is called with keywords alone (keyword-only parameters) -/
structure DB (K : PySem.W.Frag) (mg : Str → Option Value) (x : Str) (st : Stmt) (f : Addr) (fd : FuncData) : Prop where
  fn : Fun K x x st f fd
  mgf : mg x = some (.ref f)
/-! in, not in: over lists and tuples of data -/
section
variable {X : Cx}
def rInT (K : PySem.W.Frag) : R2 := fun x y H Q => ∃ d ds, Dp K H x d ∧ Dp K H y (.tuple ds) ∧ SeqAt.shaped d = true ∧ SeqAt.shaped (.tuple ds) = true ∧ Q (.bl (ds.any fun z => PyData.eqv z d)) H
def rNotInT (K : PySem.W.Frag) : R2 := fun x y H Q => ∃ d ds, Dp K H x d ∧ Dp K H y (.tuple ds) ∧ SeqAt.shaped d = true ∧ SeqAt.shaped (.tuple ds) = true ∧ Q (.bl (!ds.any fun z => PyData.eqv z d)) H
theorem op_inT (hu : X.A.units + 65 < cLine) : OpR X (compareOp .In) (rInT X.K) := by
  intro pins s σ H x y v u Q I rx ry h
  obtain ⟨d, ds, hd, he, sd, se, q⟩ := h
  obtain ⟨as, r1⟩ := Dp.reads I d x v hd rx
  obtain ⟨bs, r2⟩ := Dp.reads I (.tuple ds) y u he ry
  exact SeqAt.in_tuple_reads r2 r1 (SeqAt.canLay_of_shaped se) (SeqAt.canLay_of_shaped sd) (room_in_shaped sd hu) ⟨.bl _, H, I, rfl, q⟩
theorem op_notInT (hu : X.A.units + 65 < cLine) : OpR X (compareOp .NotIn) (rNotInT X.K) := by
  intro pins s σ H x y v u Q I rx ry h
  obtain ⟨d, ds, hd, he, sd, se, q⟩ := h
  obtain ⟨as, r1⟩ := Dp.reads I d x v hd rx
  obtain ⟨bs, r2⟩ := Dp.reads I (.tuple ds) y u he ry
  exact SeqAt.notIn_tuple_reads r2 r1 (SeqAt.canLay_of_shaped se) (SeqAt.canLay_of_shaped sd) (room_in_shaped sd hu) ⟨.bl _, H, I, rfl, q⟩
def rIn2 (K : PySem.W.Frag) : R2 := fun x y H Q => rInD K x y H Q ∨ rInT K x y H Q
def rNotIn2 (K : PySem.W.Frag) : R2 := fun x y H Q => rNotInD K x y H Q ∨ rNotInT K x y H Q
theorem op_in2 (hu : X.A.units + 65 < cLine) : OpR X (compareOp .In) (rIn2 X.K) := (op_inD hu).or (op_inT hu)
theorem op_notIn2 (hu : X.A.units + 65 < cLine) : OpR X (compareOp .NotIn) (rNotIn2 X.K) := (op_notInD hu).or (op_notInT hu)
end
def oIn2 (a b : D) (h : AH) : ER := match a.toP h 20, b.toP h 20 with
  | some p, some (.list qs) => .ok (.bl (qs.any fun z => PyData.eqv z p)) h
  | some p, some (.tuple qs) => .ok (.bl (qs.any fun z => PyData.eqv z p)) h
  | _, _ => .stuck
def oNotIn2 (a b : D) (h : AH) : ER := match a.toP h 20, b.toP h 20 with
  | some p, some (.list qs) => .ok (.bl (!qs.any fun z => PyData.eqv z p)) h
  | some p, some (.tuple qs) => .ok (.bl (!qs.any fun z => PyData.eqv z p)) h
  | _, _ => .stuck
section
variable {C : Ct}
theorem os_in2 : OpS C (rIn2 C.X.K) oIn2 := by
  intro ι h H σ x y d1 d2 Q R r1 r2 p
  unfold oIn2 at p
  split at p
  · rename_i a b e1 e2
    obtain ⟨a1, a2, a3⟩ := toP_dp R _ _ _ _ r1 e1
    obtain ⟨b1, b2, b3⟩ := toP_dp R _ _ _ _ r2 e2
    exact .inl ⟨a, b, a1, b1, toP_shaped a2 a3, toP_shaped b2 b3, p.here R (RD.bl.mpr rfl)⟩
  · rename_i a b e1 e2
    obtain ⟨a1, a2, a3⟩ := toP_dp R _ _ _ _ r1 e1
    obtain ⟨b1, b2, b3⟩ := toP_dp R _ _ _ _ r2 e2
    exact .inr ⟨a, b, a1, b1, toP_shaped a2 a3, toP_shaped b2 b3, p.here R (RD.bl.mpr rfl)⟩
  · exact p.elim
theorem os_notIn2 : OpS C (rNotIn2 C.X.K) oNotIn2 := by
  intro ι h H σ x y d1 d2 Q R r1 r2 p
  unfold oNotIn2 at p
  split at p
  · rename_i a b e1 e2
    obtain ⟨a1, a2, a3⟩ := toP_dp R _ _ _ _ r1 e1
    obtain ⟨b1, b2, b3⟩ := toP_dp R _ _ _ _ r2 e2
    exact .inl ⟨a, b, a1, b1, toP_shaped a2 a3, toP_shaped b2 b3, p.here R (RD.bl.mpr rfl)⟩
  · rename_i a b e1 e2
    obtain ⟨a1, a2, a3⟩ := toP_dp R _ _ _ _ r1 e1
    obtain ⟨b1, b2, b3⟩ := toP_dp R _ _ _ _ r2 e2
    exact .inr ⟨a, b, a1, b1, toP_shaped a2 a3, toP_shaped b2 b3, p.here R (RD.bl.mpr rfl)⟩
  · exact p.elim
end
end Rf

set_option maxHeartbeats 1000000
/-! *xs in a row of arguments or a display; max and min of a list of ints -/
namespace Rf
open PySem PySem.Spec PyProof.Rows L2
section
variable {C : Ct} {e : Expr} {m : EM} {p : Pos}
def lStar (a : EM) (r : LM) : LM := fun env h => match a env h with
  | .ok d h1 => (match seqOf h1 d with
    | some xs => (match r env h1 with
      | .ok ds h2 => .ok (xs ++ ds) h2
      | .exc c fs h2 => .exc c fs h2
      | .stuck => .stuck)
    | none => .stuck)
  | .exc c fs h1 => .exc c fs h1
  | .stuck => .stuck
theorem ma_star {es : List Expr} {mr : LM} (ha : ME C e m) (hr : MA C es mr) (hs : starEach (.Starred e p :: es) C.X.env = (true, eval e C.X.env) :: starEach es C.X.env := by rfl) : MA C (.Starred e p :: es) (lStar m mr) := by
  obtain ⟨ta, pa, sa⟩ := ha
  obtain ⟨tr, pr, sr⟩ := hr
  refine ⟨_, StX.pa_star pa pr hs, ⟨fun env h σ H ι Q R V p => ?_⟩⟩
  refine sa.run env h σ H ι _ R V ?_
  unfold lStar at p
  cases hm : m env h with
  | ok d h1 =>
    rw [hm] at p
    dsimp only at p
    refine fun ι' H' v x R' r => ?_
    cases hx : seqOf h1 d with
    | none => rw [hx] at p; exact p.elim
    | some xs =>
      rw [hx] at p
      dsimp only at p
      obtain ⟨a, vs, rfl, s, rr⟩ := seqOf_sq R' r hx
      refine ⟨a, vs, rfl, s.symm, ?_⟩
      refine sr.run env h1 σ H' ι' _ R' (V.ext R x) ?_
      cases hm2 : mr env h1 with
      | ok ds h2 =>
        rw [hm2] at p
        exact fun ι2 H2 ws x2 R2 r2 => p ι2 H2 _ (x.trans x2) R2 (RDs.append (RDs.mono (x2.grow R') rr) r2)
      | exc c fs h2 =>
        rw [hm2] at p
        exact fun ι2 H2 Cl dd x2 => p ι2 H2 Cl dd (x.trans x2)
      | stuck => rw [hm2] at p; exact p
  | exc c fs h1 => rw [hm] at p; exact p
  | stuck => rw [hm] at p; exact p
/-! targets within targets, in a comprehension -/
theorem mono_nil : ∀ vs σ H (Q Q' : List (Option V) → Hp → Prop), (∀ a b, Q a b → Q' a b) → L2.gNil vs σ H Q → L2.gNil vs σ H Q' := fun _ _ _ _ _ f q => ⟨q.1, f _ _ q.2⟩
theorem mono_cons {t : TG} {u : TGs} (m1 : ∀ v σ H (Q Q' : List (Option V) → Hp → Prop), (∀ a b, Q a b → Q' a b) → t v σ H Q → t v σ H Q') (m2 : ∀ vs σ H (Q Q' : List (Option V) → Hp → Prop), (∀ a b, Q a b → Q' a b) → u vs σ H Q → u vs σ H Q') :
    ∀ vs σ H (Q Q' : List (Option V) → Hp → Prop), (∀ a b, Q a b → Q' a b) → L2.gCons t u vs σ H Q → L2.gCons t u vs σ H Q' := fun _ _ _ _ _ f ⟨v, r, e, q⟩ => ⟨v, r, e, m1 _ _ _ _ _ (fun a b q => m2 _ _ _ _ _ f q) q⟩
theorem mono_tup {K : PySem.W.Frag} {n : Nat} {u : TGs} (m2 : ∀ vs σ H (Q Q' : List (Option V) → Hp → Prop), (∀ a b, Q a b → Q' a b) → u vs σ H Q → u vs σ H Q') :
    ∀ v σ H (Q Q' : List (Option V) → Hp → Prop), (∀ a b, Q a b → Q' a b) → L2.gTup K n u v σ H Q → L2.gTup K n u v σ H Q' := fun _ _ _ _ _ f ⟨a, xs, e, q1, q2, q3⟩ => ⟨a, xs, e, q1, q2, m2 _ _ _ _ _ f q3⟩
theorem mgc_tupK {K : PySem.W.Frag} {es : List Expr} {kk k : Nat} {pos : Pos} {r : List D → AE → AH → SR} {u : TGs} {vs : List Nat} (hc : C.X.calm = true) (h : MGcs C es r u vs) (hK : C.X.K = K := by rfl) (hn : (assignEach es C.X.env).length = k := by rfl) (hst : (assignEach es C.X.env).findIdx? (·.1) = none := by rfl) : MGc C (.Tuple es kk pos) (gTup k r) (L2.gTup K k u) vs := by
  subst hK
  exact mgc_tup hc h hn hst
/-- for q, (a, b) in .. -/
theorem mgc_nest {x y z : Str} {i j k n1 n2 : Nat} {p1 p2 p3 p4 p5 : Pos} {vs : List Nat} {K : PySem.W.Frag} (hc : C.X.calm = true) (h1 : MGc C (.Name x p1) (gVar i) (gName i) vs) (h2 : MGc C (.Name y p2) (gVar j) (gName j) vs) (h3 : MGc C (.Name z p3) (gVar k) (gName k) vs) (hK : C.X.K = K := by rfl)
    (e1 : (assignEach [.Name y p2, .Name z p3] C.X.env).length = 2 := by rfl) (e2 : (assignEach [.Name y p2, .Name z p3] C.X.env).findIdx? (·.1) = none := by rfl)
    (e3 : (assignEach [.Name x p1, .Tuple [.Name y p2, .Name z p3] n1 p4] C.X.env).length = 2 := by rfl) (e4 : (assignEach [.Name x p1, .Tuple [.Name y p2, .Name z p3] n1 p4] C.X.env).findIdx? (·.1) = none := by rfl)
    (s1 : (assignEach [.Name x p1, .Tuple [.Name y p2, .Name z p3] n1 p4] C.X.env).map (·.2) = assign (.Name x p1) C.X.env :: (assignEach [.Tuple [.Name y p2, .Name z p3] n1 p4] C.X.env).map (·.2) := by rfl)
    (s2 : (assignEach [.Tuple [.Name y p2, .Name z p3] n1 p4] C.X.env).map (·.2) = assign (.Tuple [.Name y p2, .Name z p3] n1 p4) C.X.env :: (assignEach [] C.X.env).map (·.2) := by rfl)
    (s3 : (assignEach [.Name y p2, .Name z p3] C.X.env).map (·.2) = assign (.Name y p2) C.X.env :: (assignEach [.Name z p3] C.X.env).map (·.2) := by rfl)
    (s4 : (assignEach [.Name z p3] C.X.env).map (·.2) = assign (.Name z p3) C.X.env :: (assignEach [] C.X.env).map (·.2) := by rfl) :
    MGc C (.Tuple [.Name x p1, .Tuple [.Name y p2, .Name z p3] n1 p4] n2 p5) (gTup 2 (gCons (gVar i) (gCons (gTup 2 (gCons (gVar j) (gCons (gVar k) gNils))) gNils)))
      (L2.gTup K 2 (L2.gCons (gName i) (L2.gCons (L2.gTup K 2 (L2.gCons (gName j) (L2.gCons (gName k) L2.gNil))) L2.gNil))) vs := by
  subst hK
  have q1 : MGcs C [.Name z p3] (gCons (gVar k) gNils) (L2.gCons (gName k) L2.gNil) vs := mgcs_cons h3 mgcs_nil s4 mono_name
  have q2 : MGcs C [.Name y p2, .Name z p3] (gCons (gVar j) (gCons (gVar k) gNils)) (L2.gCons (gName j) (L2.gCons (gName k) L2.gNil)) vs := mgcs_cons h2 q1 s3 mono_name
  have q3 := mgc_tup (kk := n1) (pos := p4) (k := 2) hc q2 e1 e2
  have q4 := mgcs_cons q3 mgcs_nil s2 (mono_tup (mono_cons mono_name (mono_cons mono_name mono_nil)))
  have q5 := mgcs_cons h1 q4 s1 mono_name
  exact mgc_tup hc q5 e3 e4
/-- max(xs), min(xs) of a list of ints -/
def maxI : List Int → Int
  | [] => 0
  | [a] => a
  | a :: l => max a (maxI l)
def minI : List Int → Int
  | [] => 0
  | [a] => a
  | a :: l => min a (minI l)
theorem maxI_mem : ∀ {l : List Int}, 0 < l.length → maxI l ∈ l
  | [a], _ => by simp [maxI]
  | a :: b :: l, _ => by
    have := maxI_mem (l := b :: l) (by simp)
    rw [maxI]
    · rcases Int.le_total a (maxI (b :: l)) with h | h
      · rw [Int.max_eq_right h]; exact List.mem_cons_of_mem _ this
      · rw [Int.max_eq_left h]; simp
    · simp
theorem maxI_le : ∀ {l : List Int} {y : Int}, y ∈ l → y ≤ maxI l
  | [a], y, h => by simp at h; simp [maxI, h]
  | a :: b :: l, y, h => by
    rw [maxI]
    · rcases List.mem_cons.mp h with h | h
      · subst h; omega
      · have := maxI_le (l := b :: l) h; omega
    · simp
theorem minI_mem : ∀ {l : List Int}, 0 < l.length → minI l ∈ l
  | [a], _ => by simp [minI]
  | a :: b :: l, _ => by
    have := minI_mem (l := b :: l) (by simp)
    rw [minI]
    · rcases Int.le_total a (minI (b :: l)) with h | h
      · rw [Int.min_eq_left h]; simp
      · rw [Int.min_eq_right h]; exact List.mem_cons_of_mem _ this
    · simp
theorem minI_le : ∀ {l : List Int} {y : Int}, y ∈ l → minI l ≤ y
  | [a], y, h => by simp at h; simp [minI, h]
  | a :: b :: l, y, h => by
    rw [minI]
    · rcases List.mem_cons.mp h with h | h
      · subst h; omega
      · have := minI_le (l := b :: l) h; omega
    · simp
noncomputable def cMaxL (ds : List D) (h : AH) : ER := match ds with
  | [d] => (match listOf h d with
    | some es => (match intsOf es with
      | some ns => if 0 < ns.length then .ok (.int (maxI ns)) h else .stuck
      | none => .stuck)
    | none => .stuck)
  | _ => .stuck
noncomputable def cMinL (ds : List D) (h : AH) : ER := match ds with
  | [d] => (match listOf h d with
    | some es => (match intsOf es with
      | some ns => if 0 < ns.length then .ok (.int (minI ns)) h else .stuck
      | none => .stuck)
    | none => .stuck)
  | _ => .stuck
theorem cs_maxL : CallS C (L2.rMax C.X.K) cMaxL := by
  intro ι h H σ xs ds Q R r p
  unfold cMaxL at p
  split at p
  · rename_i d
    obtain ⟨v, rfl, q1⟩ := r.one
    split at p
    · rename_i es e
      split at p
      · rename_i ns e2
        split at p
        · rename_i hl
          obtain ⟨a, vs, rfl, s, rr⟩ := listOf_sq R q1 e
          rw [intsOf_eq e2] at rr
          rw [rr.ints] at s
          refine ⟨a, ns, rfl, s, hl, fun m hm hy => ?_⟩
          have : m = maxI ns := Int.le_antisymm (maxI_le hm) (hy _ (maxI_mem hl))
          rw [this]
          exact p.here R (RD.int.mpr rfl)
        · exact p.elim
      · exact p.elim
    · exact p.elim
  · exact p.elim
theorem cs_minL : CallS C (rMin C.X.K) cMinL := by
  intro ι h H σ xs ds Q R r p
  unfold cMinL at p
  split at p
  · rename_i d
    obtain ⟨v, rfl, q1⟩ := r.one
    split at p
    · rename_i es e
      split at p
      · rename_i ns e2
        split at p
        · rename_i hl
          obtain ⟨a, vs, rfl, s, rr⟩ := listOf_sq R q1 e
          rw [intsOf_eq e2] at rr
          rw [rr.ints] at s
          refine ⟨a, ns, rfl, s, hl, fun m hm hy => ?_⟩
          have : m = minI ns := Int.le_antisymm (hy _ (minI_mem hl)) (minI_le hm)
          rw [this]
          exact p.here R (RD.int.mpr rfl)
        · exact p.elim
      · exact p.elim
    · exact p.elim
  · exact p.elim
end
/-! enumerate over tuples and lists -/
def liveE (r n : Nat) : AIt := ⟨n, fun i h => match h[r]? with
  | some (.lst ds) => some (numD ds)[i]?
  | _ => none⟩
def iEnum2 (m : EM) : IM := fun e h => match m e h with
  | .ok (.tup ds) h1 => .ok (stat (numD ds)) h1
  | .ok (.ref r) h1 => (match h1[r]? with
    | some (.lst ds) => .ok (liveE r ds.length) h1
    | _ => .stuck)
  | .ok _ _ => .stuck
  | .exc c fs h1 => .exc c fs h1
  | .stuck => .stuck
section
variable {C : Ct} {a : Expr} {m : EM} {p pos tpos : Pos} {elts : List Expr} {kk : Nat}
theorem itr_enumL {K : PySem.W.Frag} {ι : Nat → Addr} {n : Nat} {H : Hp} {r m : Nat} (hr : r < n) : ItR K (Ite K (ι r)) (liveE r m) ι n H := by
  intro i ι' h' H' x R
  have eι := x.ag r hr
  unfold liveE
  dsimp only
  cases q : h'[r]? with
  | none => exact ⟨(fun z => nomatch z), (fun d z => nomatch z)⟩
  | some o =>
    cases o with
    | lst ds =>
      obtain ⟨vs, e1, rr⟩ := R.ob r _ q
      rw [eι] at e1
      refine ⟨fun e => ⟨vs, SqL.of e1, ?_⟩, fun d e => ?_⟩
      · have e := Option.some.inj e
        rw [numD_at] at e
        rw [← rr.length]
        refine List.getElem?_eq_none_iff.mp ?_
        cases hd : ds[i]? with
        | none => rfl
        | some d => rw [hd] at e; cases e
      · have e := Option.some.inj e
        rw [numD_at] at e
        cases hd : ds[i]? with
        | none => rw [hd] at e; cases e
        | some d0 =>
          rw [hd] at e
          cases e
          obtain ⟨v, ev, rv⟩ := rr.get hd
          refine ⟨⟨vs, v, SqL.of e1, ev⟩, fun y H2 hy => ?_⟩
          obtain ⟨T, x0, rfl, hT, rfl, hx⟩ := hy
          have e2 := hx vs (SqL.of e1)
          rw [ev] at e2
          cases e2
          have xx : Ext ι' h'.length H' ι' h'.length (upd H' T (.tup [.int (i : Nat), v])) := Ext.tup hT
          refine ⟨ι', xx, R.tup hT xx, RD.tup.mpr ⟨T, _, rfl, upd_same, ?_⟩⟩
          exact RDs.cons' (RD.int.mpr rfl) (RDs.cons' (rv.mono (xx.grow R)) RDs.nil')
    | dK _ => exact ⟨(fun z => nomatch z), (fun d z => nomatch z)⟩
    | dT _ => exact ⟨(fun z => nomatch z), (fun d z => nomatch z)⟩
    | lk _ _ _ => exact ⟨(fun z => nomatch z), (fun d z => nomatch z)⟩
theorem mi_enum2 (hm : C.X.mg "enumerate" = none) (ha : ME C a m) (hg : Gl C.X "enumerate" := by rfl) (hs : starEach [a] C.X.env = [(false, eval a C.X.env)] := by rfl) (na : starEach [a] C.X.env = (false, eval a C.X.env) :: starEach [] C.X.env := by rfl) :
    MI C (.Tuple elts kk tpos) (.Call (.Name "enumerate" p) [a] [] pos) (iEnum2 m) := by
  obtain ⟨t, pa, sa⟩ := ha
  refine ⟨_, PI.or (pi_enumT hg hm (pa_cons pa pa_nil na) hs) (pi_enum hg hm (pa_cons pa pa_nil na) hs), ⟨fun env h σ H ι Q R V p => ?_⟩⟩
  unfold iEnum2 at p
  cases hm : m env h with
  | exc c fs h1 =>
    rw [hm] at p
    refine .inl (sa.run env h σ H ι _ R V ?_)
    rw [hm]; exact p
  | stuck => rw [hm] at p; exact (show False from p).elim
  | ok d h1 =>
    rw [hm] at p
    cases d with
    | tup ds =>
      refine .inl (sa.run env h σ H ι _ R V ?_)
      rw [hm]
      refine fun ι' H' v x R' r => ?_
      obtain ⟨a, vs, rfl, s, rr⟩ := RD.tup.mp r
      exact ⟨a, vs, rfl, s, p.here x R' (itr_enumT R' s rr)⟩
    | ref r =>
      refine .inr (sa.run env h σ H ι _ R V ?_)
      rw [hm]
      refine fun ι' H' v x R' rr => ?_
      dsimp only at p
      cases hr : h1[r]? with
      | none => rw [hr] at p; exact (show False from p).elim
      | some o =>
        rw [hr] at p
        cases o with
        | lst ds =>
          have hlt := (List.getElem?_eq_some_iff.mp hr).1
          obtain ⟨vs, e1, e2, rs⟩ := rr.list R' hr
          exact ⟨_, vs, by rw [e1], SqL.of e2, p.here x R' (itr_enumL hlt)⟩
        | _ => exact (show False from p).elim
    | _ => exact (show False from p).elim
end
/-! a tuple some times -/
set_option maxHeartbeats 4000000 in
theorem tuple_mul1 (l : Addr) (items : Array Value) (n : Nat) (dd : Option Addr) (sl : Array (Option Value)) (u : Tok) :
    Meets (Builtin.«tuple.__mul__» ⟨[.ref l, .int 1 u], []⟩) (fun _ R s => s.heap.get? l = some { cls := .type "tuple", dict := dd, data := .seq items n, slots := sl } ∧ R (.ok (.ret (Value.ref l))) s) :=
  .of_wp fun prog w A R s h => by
    obtain ⟨hp, g, d, tk, os⟩ := s
    obtain ⟨hl, h⟩ := h
    have f1 := AutoSeq1.idx_int
    wp_walk using wpAny_loadPart' hl
    exact ⟨_, rfl, h⟩
def rRep1T (K : PySem.W.Frag) : R2 := fun x y H Q => ∃ l xs, x = .ref l ∧ y = .int 1 ∧ SqT K H l xs ∧ Q (.ref l) H
theorem op_rep1T {X : Cx} : OpR X (binaryOp .Mult) (rRep1T X.K) := by
  intro pins s σ H x y v u Q I rx ry h
  obtain ⟨l, xs, rfl, rfl, hT, q⟩ := h
  cases rx
  obtain ⟨t, rfl⟩ := ry
  obtain ⟨its, r, ⟨⟨cls, dd, data, sl⟩, ho, hc, n, hd⟩, hs⟩ := I.tuple hT
  simp only at hc hd
  subst hc hd
  refine wpAny_binaryOp_repeat_ref (T := "tuple") (U := "int") (by decide) ⟨_, ho, rfl⟩ (fun s' => typeIs_int s' 1 t) noFill_tuple_mul F.fills_int_mul F.slot_int_rmul repeat_tuple F.slot_int_index.lookup
    (call_meets F.slot_int_rmul (typeIs_int s 1 t) F.entry_int_rmul (F.args_int_rmul_2 _ _) (int_rmul_tuple 1 t l its.toArray n dd sl)
      ⟨ho, rfl, ⟨_, ho, rfl⟩, call_meets F.slot_tuple_mul ⟨_, ho, rfl⟩ F.entry_tuple_mul (F.args_tuple_mul_2 _ _) (tuple_mul1 l its.toArray n dd sl t) ⟨ho, ?_⟩⟩)
  exact ⟨.ref l, H, I, rfl, q⟩
def rRepT2 (K : PySem.W.Frag) : R2 := fun x y H Q => rRepT K x y H Q ∨ rRep1T K x y H Q
theorem op_repT2 {X : Cx} : OpR X (binaryOp .Mult) (rRepT2 X.K) := op_repT.or op_rep1T
def oMulT (a b : D) (h : AH) : ER := match a, b with
  | .tup ds, .int k => if k = 1 then .ok (.tup ds) h else if ds ≠ [] ∧ 2 ≤ k ∧ k ≤ 1000 ∧ ds.length ≤ 1000 then .ok (.tup (List.replicate k.toNat ds).flatten) h else .stuck
  | _, _ => .stuck
theorem os_repT {C : Ct} : OpS C (rRepT2 C.X.K) oMulT := by
  intro ι h H σ x y d1 d2 Q R r1 r2 p
  unfold oMulT at p
  split at p
  · rename_i ds k
    split at p
    · rename_i hk
      subst hk
      obtain ⟨a, vs, e, s, rr⟩ := RD.tup.mp r1
      refine .inr ⟨a, vs, e, RD.int.mp r2, s, ?_⟩
      rw [← e]
      exact p.here R r1
    · split at p
      · rename_i hl
        obtain ⟨a, vs, rfl, s, rr⟩ := RD.tup.mp r1
        have l1 := rr.length
        refine .inl ⟨a, k, vs, rfl, RD.int.mp r2, s, ?_, hl.2.1, hl.2.2.1, by rw [← l1]; exact hl.2.2.2, fun q hq => p.tup R (rr.rep _) hq⟩
        intro e
        subst e
        exact hl.1 (List.eq_nil_of_length_eq_zero (by simpa using l1))
      · exact p.elim
  · exact p.elim
end Rf

set_option maxHeartbeats 1000000
/-! raise X(..) of an own error with fields -/
namespace Rf
open PySem PySem.Spec PyProof.Rows L2
/-- what X(..)'s own __init__ does: the fields ns are set in this order -/
def spX (K : PySem.W.Frag) (D : Addr) (ns : List Str) : Sp := fun vs H Q _ => ∃ a C ws, vs = .ref a :: ws ∧ ws.length = ns.length ∧ SupC K C D ∧ (∀ g ∈ ns, PySem.W.findIn K (.ref C) g = some none) ∧ H a = some (exo a C none) ∧
  ∀ dx, H dx = none → dx ≠ a → Q .non (upd (upd H dx (exd dx (ns.zip ws).reverse)) a (exo a C (some dx)))
/-- __init__(self, fld): super().__init__(text); self.fld = fld -/
theorem init1 {CX : CXT} {P : Program} {w : World} {K : PySem.W.Frag} {mg : Str → Option Value} {base : Heap} {F : NdefX.NF} {f cc D : Addr} {k : Nat} {slf fld : Str} {doc pm ctv oc : Value} {od : Option Addr} {osl : Array (Option Value)} {pl : Sem Bool} {p0 p1 p2 p3 p4 p5 p6 p7 p8 p9 : Pos} {txt : Str} {kk : Nat}
    (lk : K.lookup f = some ⟨oc, od, .func (F.fd doc pm ctv), osl⟩) (W : SupK P K mg F f cc D slf) (S : NdefX.NScope [slf, fld, "__class__"] [slf, fld] ["__class__"] F.scope) (hno : PySem.W.nsIn K cStatics "thirdparty.any" = some none)
    (hbody : F.body = [.Expr (.Call (.Attribute (.Call (.Name "super" p0) [] [] p1) "__init__" p2) [.Constant (.str txt) kk p5] [] p3) p4, .Assign [.Attribute (.Name slf p6) fld p7] (.Name fld p8) p9])
    (he : ∀ L : Addr, eval (.Call (.Attribute (.Call (.Name "super" p0) [] [] p1) "__init__" p2) [.Constant (.str txt) kk p5] [] p3) (NdefX.envF F f L) = (do
      let ov ← attributeBase (.Call (.Name "super" p0) [] [] p1) "__init__" (NdefX.envF F f L) (eval (.Call (.Name "super" p0) [] [] p1) (NdefX.envF F f L))
      standAt p2.atName
      let (f', first) ← holding [ov] (getMethod ov "__init__" pl)
      callWith p3 f' first (backTo p3 (starEach [.Constant (.str txt) kk p5] (NdefX.envF F f L))) []))
    (hin0 : ∀ L : Addr, interactive (NdefX.envF F f L) = false)
    (hs : ∀ L : Addr, swapsWith (.Call (.Attribute (.Call (.Name "super" p0) [] [] p1) "__init__" p2) [.Constant (.str txt) kk p5] [] p3) none p4.line (NdefX.envF F f L) = pure false)
    (hs2 : ∀ L : Addr, swapsWith (.Name fld p8) (some (.Attribute (.Name slf p6) fld p7)) p9.line (NdefX.envF F f L) = pure false)
    (d1 : (slf == ("__debug__" : Str)) = false) (d2 : (slf == ("__classdict__" : Str)) = false) (d3 : (fld == ("__debug__" : Str)) = false) (d4 : (fld == ("__classdict__" : Str)) = false) :
    FnOk P w K mg base CX (k + 1) f (F.fd doc pm ctv) [slf, fld] (spX K D [fld]) := by
  refine fn_super lk W S rfl hno hbody (fun vs H Q E h => ?_) (fun vs H Q E h => ?_) he hin0 hs (fun A outer s H vs Q E hr h => ?_)
  · obtain ⟨a, C, ws, rfl, l, _⟩ := h
    simp [l]
  · obtain ⟨a, C, ws, rfl, l, SC, _, ea, _⟩ := h
    exact ⟨a, C, ws, rfl, SC, ea⟩
  · obtain ⟨a, C, ws, rfl, l, SC, fl, ea, q⟩ := h
    obtain ⟨v, rfl⟩ : ∃ v, ws = [v] := by
      cases ws with
      | nil => simp at l
      | cons v r => cases r with
        | nil => exact ⟨v, rfl⟩
        | cons _ _ => simp at l
    refine ⟨_, pss_one (ps_ost (pe_var (i := 0) rfl (.inl (S.par slf (by simp))) d1 d2) (pe_var (i := 1) rfl (.inl (S.par fld (by simp))) d3 d4) (hs2 _)), ?_⟩
    refine ⟨v, rfl, .ref a, rfl, a, C, rfl, SC.ox, fl fld (by simp), .inl ⟨ea, fun dx h1 h2 => ?_⟩⟩
    exact q dx h1 h2
def sRaise (x : Str) (ns : List Str) (ml : LM) : SM := fun env h => match ml env h with
  | .ok ds h1 => if ds.length = ns.length then .exc x (ns.zip ds).reverse env h1 else .stuck
  | .exc c fs h1 => .exc c fs env h1
  | .stuck => .stuck
section
variable {C : Ct} {e : Expr} {es : List Expr} {ml : LM}
theorem zip_snd {ns : List Str} {α : Type} : ∀ {ds : List α}, ds.length = ns.length → (ns.zip ds).map (·.2) = ds := by
  induction ns with
  | nil => intro ds h; cases ds with
    | nil => rfl
    | cons _ _ => simp at h
  | cons n ns ih => intro ds h; cases ds with
    | nil => simp at h
    | cons d ds => simp at h; simp [ih h]
theorem zip_fst {ns : List Str} {α : Type} : ∀ {ds : List α}, ds.length = ns.length → (ns.zip ds).map (·.1) = ns := by
  induction ns with
  | nil => intro ds h; cases ds with
    | nil => rfl
    | cons _ _ => simp at h
  | cons n ns ih => intro ds h; cases ds with
    | nil => simp at h
    | cons d ds => simp at h; simp [ih h]
theorem ms_raise {CX : CXT} {x : Str} {Cl Db fI : Addr} {k : Nat} {fd : FuncData} {ps ns : List Str} {p pos pos' : Pos} (hc : C.X.calm = true) (tk : Takes C.X C.W) (SC : SupC C.X.K Cl Db) (hfl : ∀ g ∈ ns, PySem.W.findIn C.X.K (.ref Cl) g = some none) (iC : PySem.W.findIn C.X.K (.ref Cl) "__init__" = some (some (.ref fI))) (tI : PySem.W.typeIn C.X.K (.ref fI) = some (.type "function"))
    (F1 : FnOk C.X.prog C.X.w C.X.K C.X.mg C.X.base CX k fI fd ps (spX C.X.K Db ns)) (hr : Room (k + 1) C.X.A) (hb : Binds C.X.K fd ps []) (hx : Passes CX C.X (fun _ _ _ => False)) (hm : C.X.mg x = some (.ref Cl)) (hl : ns.length ≤ 10) (ha : MA C (e :: es) ml) (hg : Gl C.X x := by rfl)
    (hdb : (x == ("__debug__" : Str)) = false := by decide) (he : starEach (e :: es) C.X.env = (false, eval e C.X.env) :: starEach es C.X.env := by rfl) (hpl : (backTo pos (starEach es C.X.env)).any (·.1) = false := by rfl) :
    MS C (.Raise (some (.Call (.Name x p) (e :: es) [] pos)) none pos') (sRaise x ns ml) := by
  obtain ⟨t, pa, s⟩ := ha
  refine ⟨_, ps_raise hc tk (pmk_oex SC.ox iC tI F1 hr hb .nil hx hg hm pa hdb he hpl), ⟨fun env h σ H ι D R V q => ?_⟩⟩
  refine s.run env h σ H ι _ R V ?_
  unfold sRaise at q
  cases hm2 : ml env h with
  | exc c fs h1 =>
    rw [hm2] at q
    exact fun ι' H' Cl' dd x' R' g xd => q ι' H' σ Cl' dd x' R' (V.ext R x') g xd
  | stuck => rw [hm2] at q; exact q
  | ok ds h1 =>
    rw [hm2] at q
    dsimp only at q
    by_cases hn : ds.length = ns.length
    · rw [if_pos hn] at q
      refine fun ι' H1 vs x' R' rr => ?_
      have lv : vs.length = ns.length := by rw [← rr.length]; exact hn
      refine ⟨by omega, fun a na => ?_⟩
      refine ⟨a, Cl, vs, by rw [List.append_nil], lv, SC, hfl, upd_same, fun dx hdx ne => ?_⟩
      have h1dx : H1 dx = none := by rw [upd_ne ne] at hdx; exact hdx
      refine ⟨rfl, dx, (ns.zip vs).reverse, upd_same, ?_, h1dx, ?_⟩
      · rw [upd_ne ne, upd_same]
      · have eH : upd (del (upd (upd (upd H1 a (exo a Cl none)) dx (exd dx (ns.zip vs).reverse)) a (exo a Cl (some dx))) a) dx (.xd (ns.zip vs).reverse) = upd H1 dx (.xd (ns.zip vs).reverse) := by
          funext b
          by_cases h1 : b = dx
          · rw [h1, upd_same, upd_same]
          · rw [upd_ne h1, upd_ne h1]
            by_cases h2 : b = a
            · rw [h2, del_same, na]
            · rw [del_ne h2, upd_ne h2, upd_ne h1, upd_ne h2]
        rw [eH]
        have xx : Ext ι' h1.length H1 ι' h1.length (upd H1 dx (.xd (ns.zip vs).reverse)) := Ext.tup h1dx
        have R2 := R'.tup h1dx xx
        refine q ι' _ σ Cl (some dx) (x'.trans xx) R2 (V.ext R (x'.trans xx)) hm ?_
        refine ⟨_, upd_same, ?_, ?_⟩
        · rw [List.map_reverse, List.map_reverse, zip_fst hn, zip_fst lv]
        · rw [List.map_reverse, List.map_reverse, zip_snd hn, zip_snd lv]
          exact RDs.rev (rr.mono (xx.grow R'))
    · rw [if_neg hn] at q; exact q.elim
end
end Rf

set_option maxHeartbeats 1000000
/-! try: .. except X as e: .. -/
namespace Rf
open PySem PySem.Spec PyProof.Rows L2
def canS (C : Ct) (m : SM) : TS := fun D σ H => ∃ env h ι, Rel C.X.K ι h H ∧ RV C ι h.length H env σ ∧ PostS C ι h.length H (m env h) D
theorem MB.can {C : Ct} {s : List Stmt} {m : SM} (h : MB C s m) : PSs C.X s (canS C m) := by
  obtain ⟨t, p, s⟩ := h
  exact ⟨fun pins st σ H D I ⟨env, h, ι, R, V, q⟩ => p.run pins st σ H D I (s.run env h σ H ι D R V q)⟩
/-- what stands behind the suite: its name is gone -/
def SR.gone (i : Nat) : SR → SR
  | .nx e h => .nx (e.set i none) h
  | .rt d h => .rt d h
  | .bk e h => .bk (e.set i none) h
  | .ct e h => .ct (e.set i none) h
  | _ => .stuck
/-- try: b, except X as slot i: hd, told the class and the fields of what is caught; caught c: X takes an error of the class c -/
def sTry (caught : Str → Option Bool) (i : Nat) (b : SM) (hd : Str → List (Str × D) → SM) : SM := fun env h => match b env h with
  | .exc c fs e1 h1 => (match caught c with
    | some true => if i < e1.length then (hd c fs (e1.set i none) h1).gone i else .stuck
    | some false => .exc c fs e1 h1
    | none => .stuck)
  | r => r
theorem ms_try {C : Ct} {x n : Str} {cv : Value} {i : Nat} {body suite : List Stmt} {b₀ : Stmt} {np pos pos' : Pos} {mb : SM} {mh : Str → List (Str × D) → SM} {caught : Str → Option Bool} (hea : C.ea = none)
    (hs : C.X.stack = C.X.env :: C.X.outer) (hf : C.X.env.frame = some C.X.env.locals) (hN : C.X.N.Nodup) (hi : C.X.N[i]? = some n) (hln : C.X.env.kindOf n = some .local) (hc : Names C.X x cv) (tk : Takes C.X C.W)
    (hcg : ∀ c b Cl, caught c = some b → C.X.mg c = some (.ref Cl) → PySem.W.exmOne C.X.K (.ref Cl) cv = some b)
    (hb : ∀ (W : WX) (pn : List (Addr × Obj)) (xe : Value → Shared → Prop), Takes (C.X.tr pn xe) W → PassesOwn (model C.X.prog C.X.w) C.X.A C.X.env xe → MB ⟨C.X.tr pn xe, W, none⟩ body mb)
    (hsu : ∀ (a : Addr) (oe : Obj) (Cl : Addr) (d : Option Addr) (pn : List (Addr × Obj)) (c : Str) (fs : List (Str × D)), Zc (.ref Cl) d oe → (∃ vs, oe.data = .fields vs) → C.X.mg c = some (.ref Cl) → caught c = some true → MB ⟨C.X.suite a ((a, oe) :: pn), fun _ _ _ _ => False, some ⟨i, a, Cl, c, d, fs⟩⟩ (b₀ :: suite) (mh c fs)) :
    MS C (.Try body [.ExceptHandler (some (.Name x np)) (some n) (b₀ :: suite) pos'] [] [] pos) (sTry caught i mb mh) := by
  refine ⟨_, ps_try_as (tb := fun W => canS ⟨C.X, W, none⟩ mb) (ts := fun a cls d D σ H => ∃ c Cl fs, cls = .ref Cl ∧ C.X.mg c = some (.ref Cl) ∧ caught c = some true ∧ canS ⟨C.X, fun _ _ _ _ => False, some ⟨i, a, Cl, c, d, fs⟩⟩ (mh c fs) D σ H)
    hs hf hN hi hln hc tk (fun W pn xe h1 h2 => (hb W pn xe h1 h2).can) (fun a oe cls d pn hz hv => ?_), ⟨fun env h σ H ι D R v0 q => ?_⟩⟩
  · refine ⟨fun pins s σ H D I ⟨c, Cl, fs, e1, hm, hcc, z⟩ => ?_⟩
    subst e1
    exact (hsu a oe Cl d pn c fs hz hv hm hcc).can.run pins s σ H D I z
  · have V0 : RV ⟨C.X, wAs C.X.K cv i (fun a cls d D σ H => ∃ c Cl fs, cls = .ref Cl ∧ C.X.mg c = some (.ref Cl) ∧ caught c = some true ∧ canS ⟨C.X, fun _ _ _ _ => False, some ⟨i, a, Cl, c, d, fs⟩⟩ (mh c fs) D σ H) C.W D, none⟩ ι h.length H env σ := ⟨v0.re, trivial⟩
    refine ⟨env, h, ι, R, V0, ?_⟩
    have back : ∀ {ι' : Nat → Addr} {n' : Nat} {H' : Hp} {e' : AE} {σ' : List (Option V)} {W : WX} {ea : Option ExI}, RV ⟨C.X, W, ea⟩ ι' n' H' e' σ' → RV C ι' n' H' e' σ' := fun v => ⟨v.re, by rw [hea]; trivial⟩
    unfold sTry at q
    cases hm : mb env h with
    | nx e1 h1 => rw [hm] at q; exact fun ι' H' σ' x' R' v => q ι' H' σ' x' R' (back v)
    | rt d h1 => rw [hm] at q; exact q
    | bk e1 h1 => rw [hm] at q; exact fun ι' H' σ' x' R' v => q ι' H' σ' x' R' (back v)
    | ct e1 h1 => rw [hm] at q; exact fun ι' H' σ' x' R' v => q ι' H' σ' x' R' (back v)
    | stuck => rw [hm] at q; exact q
    | exc c fs e1 h1 =>
      rw [hm] at q
      dsimp only at q
      intro ι' H' σ' Cl dd x' R' v hmg xd
      have vC := back v
      cases hcc : caught c with
      | none => rw [hcc] at q; exact q.elim
      | some b =>
        refine ⟨b, hcg c b Cl hcc hmg, fun hb1 a na => ?_, fun hb0 => ?_⟩
        · subst hb1
          rw [hcc] at q
          dsimp only at q
          have li : i < e1.length := by
            by_cases z : i < e1.length
            · exact z
            · rw [if_neg z] at q; exact q.elim
          rw [if_pos li] at q
          have ls : i < σ'.length := by rw [← v.re.len]; exact li
          refine ⟨c, Cl, fs, rfl, hmg, hcc, e1.set i none, h1, ι', R', ⟨v.re.forget i _, ?_⟩, ?_⟩
          · refine ⟨List.getElem?_set_self ls, fun d e => ?_, xd⟩
            rw [List.getElem?_set_self li] at e
            cases e
          · have fg : ∀ {ι2 : Nat → Addr} {n2 : Nat} {H2 : Hp} {e2 : AE} {σ2 : List (Option V)} {W : WX} {ea : Option ExI}, RV ⟨C.X, W, ea⟩ ι2 n2 H2 e2 σ2 → RV C ι2 n2 H2 (e2.set i none) (σ2.set i none) := fun v => ⟨v.re.forget i none, by rw [hea]; trivial⟩
            cases hh : mh c fs (e1.set i none) h1 with
            | nx e2 h2 => rw [hh] at q; exact fun ι2 H2 σ2 x2 R2 v2 => q ι2 H2 _ (x'.trans x2) R2 (fg v2)
            | rt d h2 => rw [hh] at q; exact fun ι2 H2 v x2 R2 r => q ι2 H2 v (x'.trans x2) R2 r
            | bk e2 h2 => rw [hh] at q; exact fun ι2 H2 σ2 x2 R2 v2 => q ι2 H2 _ (x'.trans x2) R2 (fg v2)
            | ct e2 h2 => rw [hh] at q; exact fun ι2 H2 σ2 x2 R2 v2 => q ι2 H2 _ (x'.trans x2) R2 (fg v2)
            | exc c2 fs2 e2 h2 => rw [hh] at q; exact q.elim
            | stuck => rw [hh] at q; exact q.elim
        · subst hb0
          rw [hcc] at q
          exact q ι' H' σ' Cl dd x' R' vC hmg xd
end Rf

set_option maxHeartbeats 4000000
/-! in an except suite: isinstance(e, Y) and e.f of an error with fields -/
namespace Rf
open PySem PySem.Spec PySem.Calls PyProof.Rows PySem.W
section
variable {prog : Program} {w : World} {A : Around} {E : Value → Shared → Prop} {s : Shared} {K : Frag} {x D : Addr} {ox : Obj} {odx : Option Obj}
theorem findObj_dataO {C : Addr} {name : Str} {a g : Value} (hc : (clsIn K C).isSome = true) (ha : findIn K (.ref C) name = some (some a)) (hg : specialIn K a "__get__" = some (some g)) (ht : takesIn K a = some true) : findObj K C odx name = some (.bind g a) := by
  obtain ⟨cd, hc⟩ := Option.isSome_iff_exists.mp hc
  unfold findObj
  rw [hc, Option.bind_some, ha, Option.bind_some]
  simp [hg, ht]
theorem kin_classF {Q : Option Value → Shared → Prop} (T : L2.ExcC K D) (X : K.In s.heap) (I : InstAt s.heap x ox D odx) (h : Q (some (.ref D)) { s with toks := s.toks + 1 }) : wpAny (model prog w) A (getAttr? (.ref x) "__class__") Q E s := by
  obtain ⟨hga, hgt, hsub, hdct, ha, hn, htk, hm⟩ := T
  have hf : findObj K D odx "__class__" = some (.bind (.builtin "getset_descriptor.__get__") (.builtin "object.__class__")) := findObj_dataO (by obtain ⟨cd, hc, _⟩ := any_some hdct; rw [hc]; rfl) ha hn htk
  obtain ⟨hp, g, d, t, os⟩ := s
  have L0 := I.type (M := model prog w)
  have L1 := looks_findIn (M := model prog w) X hga
  have L2 := looks_findIn (M := model prog w) X hgt
  have L3 := looks_find (M := model prog w) X I hf
  have sub : Looks (model prog w) hp (isInstance (.ref x) (.type "BaseException")) true := L0.andThen (looks_subIn X hsub)
  have hx0 : (false && onTheHeap (Value.builtin "BaseException.__getattribute__")) = false := rfl
  have hx2 : (Value.builtin "BaseException.__getattribute__" == Value.builtin "object.__getattribute__") = false := by decide +kernel
  have hx1 : (onTheHeap (Value.ref D) && Value.builtin "BaseException.__getattribute__" == Value.builtin "object.__getattribute__") = false := by rw [hx2]; rfl
  unfold getAttr? getAttrBy? getAttrBy
  refine wpAny_bind (wpAny_mkText (wpAny_bind (wpAny_attempt (wpAny_holding (wpAny_bind (L0.at (wpAny_bind (L1.at ?_))))))))
  show wpAny _ _ (if (onTheHeap (Value.ref D) && Value.builtin "BaseException.__getattribute__" == Value.builtin "object.__getattribute__") = true then _ else _) _ _ _
  rw [hx1, if_neg Bool.false_ne_true]
  unfold getAttrByItsOwn hookBefore
  refine wpAny_bind ?_
  rw [if_pos (show onTheHeap (Value.ref D) = true from rfl)]
  refine L2.at ?_
  refine wpAny_bind (wpAny_attempt (wpAny_holding ?_))
  unfold callGetattribute
  rw [hx0, if_neg Bool.false_ne_true]
  unfold boundAndCalled
  rw [PySem.F.excAttr_ValueError.ga.bind (.ref x)]
  refine wpAny_bind (wpAny_pure ?_)
  show wpAny _ _ (call (.builtin "BaseException.__getattribute__") [.ref x, .str "__class__" t]) _ _ _
  refine wpAny_call (codeAny_call_builtin PySem.F.excAttr_ValueError.ga.plain PySem.F.entry_bexc_ga ?_)
  refine @check_slot (model prog w) _ _ ⟨hp, g, d, t + 1, os⟩ "BaseException.__getattribute__" "BaseException" "__getattribute__" (.ref x) [.str "__class__" t] [] _ (by decide +kernel) (by decide +kernel) sub (PySem.F.args_bexc_ga (.ref x) (.str "__class__" t)) ?_
  unfold Builtin.«object.__getattribute__»
  refine wpAny_bind (wpAny_of_eq (a := ((Value.ref x : Value), [Value.str "__class__" t])) (by first | rfl | (simp only [slotArgs]; rfl)) ?_)
  refine wpAny_bind (wpAny_pure (wpAny_bind (L0.at (wpAny_bind (L3.at ?_)))))
  show wpAny _ _ (holding [Value.builtin "object.__class__"] (call (.builtin "getset_descriptor.__get__") [.builtin "object.__class__", .ref x, .ref D]) >>= ret) _ _ _
  refine wpAny_bind (wpAny_holding (wpAny_call (class_get (s := ⟨hp, g, d, t + 1, os⟩) (ox := ox) (od := odx) X I hm ?_)))
  refine wpAny_pure ?_
  show wpAny _ _ (handedOut (.ref D)) _ _ _
  rw [handedOut_of (v := .ref D) rfl]
  first
    | exact wpAny_pure (wpAny_pure h)
    | exact wpAny_pure h
    | exact wpAny_pure (wpAny_bind (wpAny_pure (wpAny_pure h)))

theorem kitF (T : L2.ExcC K D) : KitX K (.ref x) (.ref D) (fun h => ∃ odx, InstAt h x ox D odx) where
  ty := fun _ _ _ ⟨_, I⟩ => I.type
  it := fun _ _ X _ => by
    obtain ⟨cdD, hcD, _⟩ := any_some T.hd
    unfold clsIn at hcD
    split at hcD
    · rename_i c' d' cd' sl' ho
      intro A' Q' E' s' k q
      unfold isType loadHead
      exact wpAny_bind (wpAny_loadPart (k _ _ (X _ _ ho)) (wpAny_pure q))
    · cases hcD
  ne := (handS_kitx_exc (x := x) (ox := ox) T.hg T.hk T.hs T.hd T.ha T.hn T.ht T.hm).ne
  ca := fun X ⟨_, I⟩ k => kin_classF T X I k
end
end Rf
namespace Rf
open PySem PySem.Spec PyProof.Rows L2
def rIsF (K : PySem.W.Frag) (D a : Addr) (d : Option Addr) : List V → Hp → VK → Prop := fun xs H Q => ∃ (c : V) (cv : Value) (b : Bool), xs = [.ref a, c] ∧ (d = none ∨ ∃ dd fs, d = some dd ∧ H dd = some (.xd fs)) ∧ (∀ u, RelV c u → u = cv) ∧ PySem.W.kitOne K (.ref D) cv = some b ∧ Q (.bl b) H
theorem call_isF {X : Cx} {a D : Addr} {oe : Obj} {d : Option Addr} {pn : List (Addr × Obj)} (T : ExcC X.K D) (hz : Zc (.ref D) d oe) (hf : ∃ vs, oe.data = .fields vs) : CallR (X.suite a ((a, oe) :: pn)) (.builtin "isinstance") (rIsF X.K D a d) := by
  intro pins s σ H xs us Q I r h
  obtain ⟨c, cv, b, rfl, hd, hcv, e, q⟩ := h
  cases r with
  | cons rx rr =>
    cases rr with
    | cons rt rr =>
      cases rr
      cases rx
      have ec := hcv _ rt
      subst ec
      obtain ⟨hget, _⟩ := I.pin (a, oe) (List.mem_append.mpr (.inl List.mem_cons_self))
      obtain ⟨vs, hv⟩ := hf
      have hno : PySem.W.notCls oe = true := by unfold PySem.W.notCls; rw [hv] <;> rfl
      have J : ∃ odx, PySem.W.InstAt s.heap a oe D odx := by
        rcases hd with rfl | ⟨dd, fs, rfl, ed⟩
        · exact ⟨none, hget, hz.1, hno, by rw [hz.2]; trivial⟩
        · have hx : ObjOk X.prog X.w H s.heap dd (.xd fs) := I.hok dd _ ed
          obtain ⟨mA, hns, _⟩ := hx
          obtain ⟨od, _, _, ho, _⟩ := hns
          exact ⟨some od, hget, hz.1, hno, by rw [hz.2]; exact ho⟩
      exact PySem.W.kia_one (kitF T) I.kIn J e (fun z => nomatch z) fun tk => ⟨.bl b, H, I.kept (t' := tk) fun _ _ z => z, rfl, q⟩
end Rf

set_option maxHeartbeats 1000000
/-! the layer's expressions in an except suite: isinstance(e, Y), e.f -/
namespace Rf
open PySem PySem.Spec PyProof.Rows L2
/-- the context of an except suite: the error at a, of the class c at Cl, with the fields fs -/
abbrev Ct.sui (X : Cx) (a : Addr) (oe : Obj) (pn : List (Addr × Obj)) (i : Nat) (Cl : Addr) (c : Str) (d : Option Addr) (fs : List (Str × D)) : Ct := ⟨X.suite a ((a, oe) :: pn), fun _ _ _ _ => False, some ⟨i, a, Cl, c, d, fs⟩⟩
def eFld (f : Str) (fs : List (Str × D)) : EM := fun _ h => match fs.lookup f with
  | some d => .ok d h
  | none => .stuck
section
variable {X : Cx} {a Cl : Addr} {oe : Obj} {pn : List (Addr × Obj)} {i : Nat} {c n : Str} {d : Option Addr} {fs : List (Str × D)} {p p1 p2 p3 pos : Pos}
theorem xd_cases {K : PySem.W.Frag} {ι : Nat → Addr} {m : Nat} {H : Hp} (x : XD K ι m H d fs) : d = none ∨ ∃ dd ws, d = some dd ∧ H dd = some (.xd ws) := by
  cases d with
  | none => exact .inl rfl
  | some dd =>
    obtain ⟨ws, e, _⟩ := x
    exact .inr ⟨dd, ws, rfl, e⟩
theorem lookup_rel {K : PySem.W.Frag} {ι : Nat → Addr} {m : Nat} {H : Hp} {f : Str} {dv : D} : ∀ {fs : List (Str × D)} {ws : List (Str × V)}, fs.map (·.1) = ws.map (·.1) → RDs K ι m H (fs.map (·.2)) (ws.map (·.2)) → fs.lookup f = some dv → ∃ w, ws.lookup f = some w ∧ RD K ι m H dv w
  | [], _, _, _, e => by simp at e
  | (g, d) :: fs, [], k, _, _ => by simp at k
  | (g, d) :: fs, (g', w) :: ws, k, r, e => by
    simp only [List.map_cons, List.cons.injEq] at k
    obtain ⟨rfl, k⟩ := k
    obtain ⟨v, vs, e1, r1, r2⟩ := RDs.cons.mp r
    simp only [List.map_cons, List.cons.injEq] at e1
    obtain ⟨rfl, rfl⟩ := e1
    rw [List.lookup_cons] at e ⊢
    by_cases q : f = g
    · subst q
      simp only [beq_self_eq_true, if_true] at e ⊢
      cases e
      exact ⟨w, rfl, r1⟩
    · have q' : (f == g) = false := by simpa using q
      rw [q'] at e ⊢
      exact lookup_rel k r2 e
theorem me_isE {y : Str} {cv : Value} {v : V} {b : Bool} (hz : Zc (.ref Cl) d oe) (hf : ∃ vs, oe.data = .fields vs) (T : ExcC X.K Cl) (hi : X.N[i]? = some n) (hv : Vis X.env.scope n) (hm : X.mg "isinstance" = none) (hy : PE (X.suite a ((a, oe) :: pn)) (.Name y p3) (tC v)) (hcv : ∀ u, RelV v u → u = cv) (hk : PySem.W.kitOne X.K (.ref Cl) cv = some b)
    (hd1 : (n == ("__debug__" : Str)) = false := by decide) (hd2 : (n == ("__classdict__" : Str)) = false := by decide) (hg : Gl X "isinstance" := by rfl) :
    ME (Ct.sui X a oe pn i Cl c d fs) (.Call (.Name "isinstance" p) [.Name n p2, .Name y p3] [] pos) (eC (.bl b)) := by
  refine ⟨_, pe_callB (call_isF T hz hf) hg hm (by decide +kernel) (pa_cons (pe_var hi hv hd1 hd2) (pa_cons hy pa_nil)) (by decide) (by decide) rfl rfl, ⟨fun env h σ H ι Q R v0 q => ?_⟩⟩
  have q : PostE (Ct.sui X a oe pn i Cl c d fs) ι h.length H σ (.ok (.bl b) h) Q := q
  obtain ⟨e1, e2, e3⟩ : σ[i]? = some (some (.ref a)) ∧ (∀ d, env[i]? ≠ some (some d)) ∧ XD X.K ι h.length H d fs := v0.ea
  exact ⟨.ref a, e1, v, cv, b, rfl, xd_cases e3, hcv, hk, q ι H _ .refl R (RD.bl.mpr rfl)⟩
theorem me_fld {f : Str} (hz : Zc (.ref Cl) d oe) (hf : ∃ vs, oe.data = .fields vs) (T : XfC X.K Cl) (hno : PySem.W.findIn X.K (.ref Cl) f = some none) (hi : X.N[i]? = some n) (hv : Vis X.env.scope n)
    (hd1 : (n == ("__debug__" : Str)) = false := by decide) (hd2 : (n == ("__classdict__" : Str)) = false := by decide) (hb : attributeBase (.Name n p) f X.env (eval (.Name n p) X.env) = eval (.Name n p) X.env := by rfl) :
    ME (Ct.sui X a oe pn i Cl c d fs) (.Attribute (.Name n p) f pos) (eFld f fs) := by
  refine ⟨_, pe_xf T hno hz hf (pe_var hi hv hd1 hd2) hb, ⟨fun env h σ H ι Q R v0 q => ?_⟩⟩
  obtain ⟨e1, e2, e3⟩ : σ[i]? = some (some (.ref a)) ∧ (∀ d, env[i]? ≠ some (some d)) ∧ XD X.K ι h.length H d fs := v0.ea
  unfold eFld at q
  cases hl : fs.lookup f with
  | none => rw [hl] at q; exact q.elim
  | some dv =>
    rw [hl] at q
    cases d with
    | none =>
      have : fs = [] := e3
      subst this
      simp at hl
    | some dd =>
      obtain ⟨ws, w1, w2, w3⟩ := e3
      obtain ⟨w, l, r⟩ := lookup_rel w2 w3 hl
      exact ⟨.ref a, e1, rfl, rfl, dd, ws, w, rfl, w1, l, q ι H w .refl R r⟩
end
end Rf

set_option maxHeartbeats 1000000
/-! in an except suite: isinstance(e, (X, Y, ..)) -/
namespace Rf
open PySem PySem.Spec PyProof.Rows L2
def rIsFT (K : PySem.W.Frag) (D a : Addr) (d : Option Addr) : List V → Hp → VK → Prop := fun xs H Q => ∃ (tp : Addr) (cs : List V) (cvs : List Value) (b : Bool), xs = [.ref a, .ref tp] ∧ (d = none ∨ ∃ dd fs, d = some dd ∧ H dd = some (.xd fs)) ∧ SqT K H tp cs ∧ (∀ us, Vals cs us → us = cvs) ∧
  PySem.W.kitAny K (.ref D) cvs = some b ∧ Q (.bl b) H
theorem call_isFT {X : Cx} {a D : Addr} {oe : Obj} {d : Option Addr} {pn : List (Addr × Obj)} (T : ExcC X.K D) (hz : Zc (.ref D) d oe) (hf : ∃ vs, oe.data = .fields vs) : CallR (X.suite a ((a, oe) :: pn)) (.builtin "isinstance") (rIsFT X.K D a d) := by
  intro pins s σ H xs us Q I r h
  obtain ⟨tp, cs, cvs, b, rfl, hd, hT, hcv, e, q⟩ := h
  cases r with
  | cons rx rr =>
    cases rr with
    | cons rt rr =>
      cases rr
      cases rx
      cases rt
      obtain ⟨its, r, ⟨⟨cls, dd0, data, sl⟩, ho, hc, n, hdt⟩, _⟩ := I.tuple hT
      simp only at hc hdt
      subst hc hdt
      have ei := hcv _ r
      subst ei
      obtain ⟨hget, _⟩ := I.pin (a, oe) (List.mem_append.mpr (.inl List.mem_cons_self))
      obtain ⟨vs, hv⟩ := hf
      have hno : PySem.W.notCls oe = true := by unfold PySem.W.notCls; rw [hv] <;> rfl
      have J : ∃ odx, PySem.W.InstAt s.heap a oe D odx := by
        rcases hd with rfl | ⟨dd, fs, rfl, ed⟩
        · exact ⟨none, hget, hz.1, hno, by rw [hz.2]; trivial⟩
        · have hx : ObjOk X.prog X.w H s.heap dd (.xd fs) := I.hok dd _ ed
          obtain ⟨mA, hns, _⟩ := hx
          obtain ⟨od, _, _, ho, _⟩ := hns
          exact ⟨some od, hget, hz.1, hno, by rw [hz.2]; exact ho⟩
      exact PySem.W.kia_tup (kitF T) I.kIn J ho e (fun z => nomatch z) fun tk => ⟨.bl b, H, I.kept (t' := tk) fun _ _ z => z, rfl, q⟩
section
variable {X : Cx} {a Cl : Addr} {oe : Obj} {pn : List (Addr × Obj)} {i : Nat} {c n : Str} {d : Option Addr} {fs : List (Str × D)} {p p1 p2 p3 pos : Pos}
theorem me_isET {ys : List Expr} {t : TA} {x1 : Nat} {cvs : List Value} {cs : List V} {b : Bool} (hz : Zc (.ref Cl) d oe) (hf : ∃ vs, oe.data = .fields vs) (T : ExcC X.K Cl) (hi : X.N[i]? = some n) (hv : Vis X.env.scope n) (hm : X.mg "isinstance" = none) (hy : PA (X.suite a ((a, oe) :: pn)) ys t)
    (ht : ∀ σ H Q, Q cs H → t σ H Q) (hl : cs.length ≤ 100) (hcv : ∀ us, Vals cs us → us = cvs) (hk : PySem.W.kitAny X.K (.ref Cl) cvs = some b)
    (hd1 : (n == ("__debug__" : Str)) = false := by decide) (hd2 : (n == ("__classdict__" : Str)) = false := by decide) (hg : Gl X "isinstance" := by rfl) :
    ME (Ct.sui X a oe pn i Cl c d fs) (.Call (.Name "isinstance" p) [.Name n p2, .Tuple ys x1 p3] [] pos) (eC (.bl b)) := by
  refine ⟨_, pe_callB (call_isFT T hz hf) hg hm (by decide +kernel) (pa_cons (pe_var hi hv hd1 hd2) (pa_cons (pe_tup hy) pa_nil)) (by decide) (by decide) rfl rfl, ⟨fun env h σ H ι Q R v0 q => ?_⟩⟩
  have q : PostE (Ct.sui X a oe pn i Cl c d fs) ι h.length H σ (.ok (.bl b) h) Q := q
  obtain ⟨e1, e2, e3⟩ : σ[i]? = some (some (.ref a)) ∧ (∀ d, env[i]? ≠ some (some d)) ∧ XD X.K ι h.length H d fs := v0.ea
  refine ⟨.ref a, e1, ht _ _ _ ⟨by rw [sizeLine_eq]; omega, fun tp hp => ?_⟩⟩
  have xx : Ext ι h.length H ι h.length (upd H tp (.tup cs)) := Ext.tup hp
  refine ⟨tp, cs, cvs, b, rfl, ?_, .inl (.inl upd_same), hcv, hk, q ι _ _ xx (R.tup hp xx) (RD.bl.mpr rfl)⟩
  rcases xd_cases e3 with h1 | ⟨dd, ws, h1, h2⟩
  · exact .inl h1
  · refine .inr ⟨dd, ws, h1, ?_⟩
    rw [upd_ne (ne_of_none h2 hp)]; exact h2
end
end Rf

set_option maxHeartbeats 1000000
/-! what the written part says of an own error of one field, in one place -/
namespace Rf
open PySem PySem.Spec PyProof.Rows L2
structure ErrC (P : Program) (K : PySem.W.Frag) (mg : Str → Option Value) (x : Str) (Cl fI : Addr) (fd : FuncData) (slf fld : Str) : Prop where
  mgx : mg x = some (.ref Cl)
  sc : SupC K Cl Cl
  fl : PySem.W.findIn K (.ref Cl) fld = some none
  iC : PySem.W.findIn K (.ref Cl) "__init__" = some (some (.ref fI))
  tI : PySem.W.typeIn K (.ref fI) = some (.type "function")
  bd : Binds K fd [slf, fld] []
  ok : ∀ (w : World) (base : Heap) (CX : CXT), FnOk P w K mg base CX 1 fI fd [slf, fld] (spX K Cl [fld])
  ec : ExcC K Cl
  xf : XfC K Cl
theorem ms_raiseE {C : Ct} {e : Expr} {ml : LM} {x : Str} {Cl fI : Addr} {fd : FuncData} {slf fld : Str} {p pos pos' : Pos} (EC : ErrC C.X.prog C.X.K C.X.mg x Cl fI fd slf fld) (hc : C.X.calm = true) (tk : Takes C.X C.W) (hr : Room 2 C.X.A) (ha : MA C [e] ml) (hg : Gl C.X x := by rfl)
    (hdb : (x == ("__debug__" : Str)) = false := by decide) (he : starEach [e] C.X.env = (false, eval e C.X.env) :: starEach [] C.X.env := by rfl) (hpl : (backTo pos (starEach [] C.X.env)).any (·.1) = false := by rfl) :
    MS C (.Raise (some (.Call (.Name x p) [e] [] pos)) none pos') (sRaise x [fld] ml) :=
  ms_raise (ns := [fld]) (k := 1) hc tk EC.sc (fun g hg => by rw [List.mem_singleton.mp hg]; exact EC.fl) EC.iC EC.tI (EC.ok C.X.w C.X.base (fun _ _ _ _ _ _ => False)) hr EC.bd (fun _ _ _ _ _ _ _ z => z.elim) EC.mgx (by simp) ha hg hdb he hpl
end Rf

set_option maxHeartbeats 1000000
/-! reversed(x) of a list or a tuple; i ^ j -/
namespace Rf
open PySem PySem.Spec PyProof.Rows L2 RT
def liveR (r n : Nat) : AIt := ⟨n, fun i h => if n ≤ i then some none else match h[r]? with
  | some (.lst ds) => (match ds[n - 1 - i]? with
    | some d => some (some d)
    | none => none)
  | _ => none⟩
def iRev (m : EM) : IM := fun e h => match m e h with
  | .ok (.tup ds) h1 => .ok (stat ds.reverse) h1
  | .ok (.ref r) h1 => (match h1[r]? with
    | some (.lst ds) => .ok (liveR r ds.length) h1
    | _ => .stuck)
  | .ok _ _ => .stuck
  | .exc c fs h1 => .exc c fs h1
  | .stuck => .stuck
def eTupRev (m : EM) : EM := fun env h => (m env h).then fun d h1 => match listOf h1 d with
  | some ds => .ok (.tup ds.reverse) h1
  | none => .stuck
section
variable {C : Ct} {tg a : Expr} {m : EM} {p pos p2 pos2 : Pos} {K : PySem.W.Frag} {ι : Nat → Addr} {n : Nat} {h : AH} {H : Hp} {ds : List D} {vs : List V} {ad : Addr}
theorem itr_revT (R0 : Rel K ι h H) (q : SqT K H ad vs) (r : RDs K ι h.length H ds vs) : ItR K (ItvT K ad vs.length) (stat ds.reverse) ι h.length H := by
  have ln := r.length
  refine itr_stat fun i ι' h' H' x R => ⟨fun e => ?_, fun d e => ?_⟩
  · have := List.getElem?_eq_none_iff.mp e
    rw [List.length_reverse] at this
    show vs.length ≤ i
    omega
  · have hi : i < ds.length := by
      have := (List.getElem?_eq_some_iff.mp e).1
      rwa [List.length_reverse] at this
    rw [List.getElem?_reverse hi] at e
    obtain ⟨v, ev, rv⟩ := r.get e
    rw [ln] at ev
    refine ⟨⟨by omega, vs, v, R0.sqT x q, ev⟩, fun y H2 hy => ?_⟩
    obtain ⟨rfl, hy⟩ := hy
    have e2 := hy vs (R0.sqT x q)
    rw [ev] at e2; cases e2
    exact ⟨ι', .refl, R, rv.mono (x.grow R0)⟩
theorem itr_revL {r mm : Nat} (hr : r < n) : ItR K (Itv K (ι r) mm) (liveR r mm) ι n H := by
  intro i ι' h' H' x R
  have eι := x.ag r hr
  unfold liveR
  dsimp only
  by_cases hi : mm ≤ i
  · rw [if_pos hi]
    exact ⟨fun _ => hi, fun d z => nomatch z⟩
  · rw [if_neg hi]
    cases q : h'[r]? with
    | none => exact ⟨(fun z => nomatch z), (fun d z => nomatch z)⟩
    | some o =>
      cases o with
      | lst ds =>
        dsimp only
        obtain ⟨vs, e1, rr⟩ := R.ob r _ q
        rw [eι] at e1
        cases hd : ds[mm - 1 - i]? with
        | none => exact ⟨(fun z => nomatch z), (fun d z => nomatch z)⟩
        | some d0 =>
          refine ⟨(fun z => nomatch z), fun d e => ?_⟩
          have e := Option.some.inj (Option.some.inj e)
          subst e
          obtain ⟨v, ev, rv⟩ := rr.get hd
          refine ⟨⟨by omega, vs, v, SqL.of e1, ev⟩, fun y H2 hy => ?_⟩
          obtain ⟨rfl, hy⟩ := hy
          have e2 := hy vs (SqL.of e1)
          rw [ev] at e2; cases e2
          exact ⟨ι', .refl, R, rv⟩
      | dK _ => exact ⟨(fun z => nomatch z), (fun d z => nomatch z)⟩
      | dT _ => exact ⟨(fun z => nomatch z), (fun d z => nomatch z)⟩
      | lk _ _ _ => exact ⟨(fun z => nomatch z), (fun d z => nomatch z)⟩
theorem mi_rev (hm : C.X.mg "reversed" = none) (ha : ME C a m) (hg : Gl C.X "reversed" := by rfl) (hs : starEach [a] C.X.env = (false, eval a C.X.env) :: starEach [] C.X.env := by rfl) : MI C tg (.Call (.Name "reversed" p) [a] [] pos) (iRev m) := by
  obtain ⟨t, pa, sa⟩ := ha
  refine ⟨_, pi_revA hg hm pa hs, ⟨fun env h σ H ι Q R V p => ?_⟩⟩
  refine sa.run env h σ H ι _ R V ?_
  unfold iRev at p
  cases hm : m env h with
  | exc c fs h1 => rw [hm] at p; exact p
  | stuck => rw [hm] at p; exact p
  | ok d h1 =>
    rw [hm] at p
    cases d with
    | tup ds =>
      refine fun ι' H' v x R' r => ?_
      obtain ⟨a, vs, rfl, s, rr⟩ := RD.tup.mp r
      exact ⟨a, vs, rfl, .inr ⟨s, p.here x R' (itr_revT R' s rr)⟩⟩
    | ref r =>
      refine fun ι' H' v x R' rr => ?_
      dsimp only at p
      cases hr : h1[r]? with
      | none => rw [hr] at p; exact (show False from p).elim
      | some o =>
        rw [hr] at p
        cases o with
        | lst ds =>
          have hlt := (List.getElem?_eq_some_iff.mp hr).1
          obtain ⟨vs, e1, e2, rs⟩ := rr.list R' hr
          have ln := rs.length
          refine ⟨_, vs, by rw [e1], .inl ⟨SqL.of e2, ?_⟩⟩
          rw [← ln]
          exact p.here x R' (itr_revL hlt)
        | _ => exact (show False from p).elim
    | _ => exact (show False from p).elim
theorem me_tupRev (hc : C.X.calm = true) (hm : C.X.mg "tuple" = none) (hm2 : C.X.mg "reversed" = none) (ha : ME C a m) (hg : Gl C.X "tuple" := by rfl) (hg2 : Gl C.X "reversed" := by rfl) (hs : starEach [a] C.X.env = (false, eval a C.X.env) :: starEach [] C.X.env := by rfl)
    (hs2 : starEach [.Call (.Name "reversed" p2) [a] [] pos2] C.X.env = (false, eval (.Call (.Name "reversed" p2) [a] [] pos2) C.X.env) :: starEach [] C.X.env := by rfl) :
    ME C (.Call (.Name "tuple" p) [.Call (.Name "reversed" p2) [a] [] pos2] [] pos) (eTupRev m) := by
  obtain ⟨t, pa, sa⟩ := ha
  refine ⟨_, pe_tupRev hc hg hm hg2 hm2 pa hs hs2, ⟨fun env h σ H ι Q R V q => ?_⟩⟩
  refine sa.then R V q fun d h1 ι1 H1 v x1 R1 V1 r1 p1 => ?_
  split at p1
  · rename_i ds e
    obtain ⟨a, vs, rfl, s, rr⟩ := listOf_sq R1 r1 e
    exact ⟨a, vs, rfl, s, fun q hq => p1.tup R1 (RDs.rev rr) hq⟩
  · exact p1.elim
def oXor (a b : D) (h : AH) : ER := match a, b with
  | .int i, .int j => .ok (.int (Builtin.bitXor i j)) h
  | _, _ => .stuck
theorem os_xor : OpS C (rI0 fun i j => .int (Builtin.bitXor i j)) oXor := by
  intro ι h H σ x y d1 d2 Q R r1 r2 p
  unfold oXor at p
  split at p
  · rename_i i j
    exact ⟨i, j, RD.int.mp r1, RD.int.mp r2, p.here R (RD.int.mpr rfl)⟩
  · exact p.elim
end
end Rf

set_option maxHeartbeats 1000000
/-! a.join(texts); a constant of the module -/
namespace Rf
open PySem PySem.Spec PyProof.Rows L2
def JoinOk (a : Str) (ys : List Str) : Prop := (ys.map (·.length)).sum + ys.length * a.length ≤ 16777216
noncomputable instance {a : Str} {ys : List Str} : Decidable (JoinOk a ys) := Classical.propDecidable _
noncomputable def oJoin (a : Str) (x : D) (h : AH) : ER := match seqOf h x with
  | some ds => (match strsOf ds with
    | some ys => if JoinOk a ys then .ok (.str (Txt.join a ys)) h else .stuck
    | none => .stuck)
  | _ => .stuck
noncomputable def eJoin (mo me : EM) : EM := fun env h => (mo env h).then fun d h1 => match d with
  | .str a => (me env h1).then fun x h2 => oJoin a x h2
  | _ => .stuck
section
variable {C : Ct} {o e : Expr} {mo me : EM} {apos pos : Pos}
theorem me_join (ho : ME C o mo) (he : ME C e me) (hs : starEach [e] C.X.env = [(false, eval e C.X.env)] := by rfl) (hbase : attributeBase o "join" C.X.env (eval o C.X.env) = eval o C.X.env := by rfl) (hline : (apos.endLine == pos.line) = true := by rfl) :
    ME C (.Call (.Attribute o "join" apos) [e] [] pos) (eJoin mo me) := by
  obtain ⟨to, po, so⟩ := ho
  obtain ⟨te, pe, se⟩ := he
  refine ⟨_, pe_join po pe hs hbase hline, ⟨fun env h σ H ι Q R V q => ?_⟩⟩
  refine so.then R V q fun d h1 ι1 H1 v x1 R1 V1 r1 p1 => ?_
  cases d with
  | str a =>
    refine ⟨⟨a, RD.str.mp r1⟩, ?_⟩
    refine se.then R1 V1 p1 fun x h2 ι2 H2 u x2 R2 V2 r2 p2 => ?_
    unfold oJoin at p2
    split at p2
    · rename_i ds hd
      split at p2
      · rename_i ys e1
        split at p2
        · rename_i hj
          obtain ⟨b, vs, rfl, s, rr⟩ := seqOf_sq R2 r2 hd
          rw [strsOf_eq e1] at rr
          rw [rr.strs] at s
          exact ⟨a, b, ys, RD.str.mp r1, rfl, s, hj, p2.here R2 (RD.str.mpr rfl)⟩
        · exact p2.elim
      · exact p2.elim
    · exact p2.elim
  | _ => exact (show False from p1).elim
theorem me_glob {x : Str} {i : Int} {tk : Tok} (hm : C.X.mg x = some (.int i tk)) (hg : Gl C.X x := by rfl) (hd : (x == ("__debug__" : Str)) = false := by decide) : ME C (.Name x pos) (eC (.int i)) :=
  ⟨_, pe_glob (v := .int i) hg hm ⟨_, rfl⟩ hd, ⟨fun env h σ H ι Q R V q => by
    have q : PostE C ι h.length H σ (.ok (.int i) h) Q := q
    exact q ι H _ .refl R (RD.int.mpr rfl)⟩⟩
end
end Rf

set_option maxHeartbeats 1000000
/-! a call by names alone -/
namespace Rf
open PySem PySem.Spec PyProof.Rows L2
section
variable {C : Ct} {k pl km : Nat} {f : Addr} {fd : FuncData} {ps ks : List Str} {F : List D → AH → ER} {x : Str} {p pos : Pos} {kws : List Keyword} {mk : LM} {idx : List Nat}
theorem me_callK0 (F0 : FnOk C.X.prog C.X.w C.X.K C.X.mg C.X.base (L2.CX C.X.prog C.X.w) k f fd ps (spF C.X.K C.X.mg pl F)) (hr : Room k C.X.A) (hm : C.X.mg x = some (.ref f)) (hk : PySem.W.keepIn C.X.K (.ref f) = true) (hb : KBn C.X.K fd ps 0 ks (permK idx) (permK idx)) (tk : Takes C.X C.W)
    (hw : MK C kws mk) (hpl2 : ∀ us ws : List D, us.length = 0 → ws.length = km → (permK idx us ws).length = pl) (hkm : ks.length = km := by rfl)
    (hall : (backToKw pos (keywordEach kws C.X.env)).all (·.1.isSome) = true := by rfl) (hks : (backToKw pos (keywordEach kws C.X.env)).filterMap (·.1) = ks := by rfl) (hg : Gl C.X x := by rfl) (hdb : (x == ("__debug__" : Str)) = false := by decide)
    (hpl : ((backTo pos (starEach [] C.X.env)).any (·.1) || (backToKw pos (keywordEach kws C.X.env)).any (·.1.isNone)) = false := by rfl) :
    ME C (.Call (.Name x p) [] kws pos) (eCallK 0 km idx F lNil mk) := by
  subst hkm
  obtain ⟨t2, pk, s2⟩ := hw
  refine ⟨fun σ H Q => tCallN 0 ks.length (spF C.X.K C.X.mg pl F) (permK idx) (WE C.W σ) tNil t2 σ H Q, ⟨fun pins s0 σ H Q I h => ?_⟩, ⟨fun env h σ H ι Q R V q => ?_⟩⟩
  · refine wpAny_Call_Name_kw (ld_glob (x := x) I hg hm ?_ hdb)
    refine PySem.W.callWith_KW0 (h₀ := C.X.base) I.ok.mod.kin hk hall (thn (pk.run pos pins s0 σ H _ I h) fun ws s2 h2 => ?_) hpl
    obtain ⟨zs, H2, I2, rz, l1, l2, q2⟩ := h2
    refine ⟨I2.kIn, ?_⟩
    rw [hks]
    exact runK F0 hr hb (passAt tk σ) I2 .nil rz l1 l2 q2
  · refine s2.run env h σ H ι _ R V ?_
    have q1 : PostE C ι h.length H σ ((mk env h).then fun es h2 => if ([] : List D).length = 0 ∧ es.length = ks.length then F (permK idx [] es) h2 else .stuck) Q := q
    cases hm2 : mk env h with
    | ok es h2 =>
      rw [hm2] at q1
      refine fun ι2 H2 zs x2 R2 r2 => ?_
      have q2 : PostE C ι h.length H σ (if ([] : List D).length = 0 ∧ es.length = ks.length then F (permK idx [] es) h2 else .stuck) Q := q1
      by_cases hd : ([] : List D).length = 0 ∧ es.length = ks.length
      · rw [if_pos hd] at q2
        have r3 := permK_RDs (ds := []) (vs := []) RDs.nil' r2 idx
        refine ⟨rfl, by rw [← r2.length]; exact hd.2, ?_⟩
        exact spF.of R2 r3 (by rw [← r3.length]; exact hpl2 _ _ hd.1 hd.2) (PostE.shift q2 x2)
      · rw [if_neg hd] at q2; exact q2.elim
    | exc c fs h2 =>
      rw [hm2] at q1
      exact fun ι2 H2 Cl dd x2 => q1 ι2 H2 Cl dd x2
    | stuck => rw [hm2] at q1; exact q1
end
end Rf

/-! printed defs with exceptions: which class was caught, which classes a tuple holds -/
namespace Rf
open PySem PySem.Spec PyProof.Rows L2
theorem caught_cases {c n : Str} {b d : Bool} {l : List (Str × Bool)} (h : ((n, d) :: l).lookup c = some b) : (c = n ∧ b = d) ∨ (l.lookup c = some b) := by
  by_cases e : c = n
  · subst e
    rw [List.lookup_cons_self] at h
    exact .inl ⟨rfl, (Option.some.inj h).symm⟩
  · rw [List.lookup_cons] at h
    have z : (c == n) = false := by simpa using e
    rw [z] at h
    exact .inr h
theorem caught_one {c n : Str} {b d : Bool} (h : ([(n, d)] : List (Str × Bool)).lookup c = some b) : c = n ∧ b = d := by
  rcases caught_cases h with h | h
  · exact h
  · cases h
theorem vals_none {us : List Value} (h : Vals ([] : List V) us) : us = [] := by cases h; rfl
theorem vals_ref {a : Addr} {vs : List V} {us ws : List Value} (h : Vals (.ref a :: vs) us) (k : ∀ us, Vals vs us → us = ws) : us = .ref a :: ws := by
  cases h with
  | cons h1 h2 =>
    have e := k _ h2
    subst e
    cases h1
    rfl
theorem vals_ty {n : String} {vs : List V} {us ws : List Value} (h : Vals (.ty n :: vs) us) (k : ∀ us, Vals vs us → us = ws) : us = .type n :: ws := by
  cases h with
  | cons h1 h2 =>
    have e := k _ h2
    subst e
    cases h1
    rfl
end Rf

set_option maxHeartbeats 1000000
/-! an own error of one field, from what the written part says -/
namespace Rf
open PySem PySem.Spec PyProof.Rows L2
theorem supC_of {K : PySem.W.Frag} {C : Addr} {nm q : Str} {N : Addr} {bs bm : List Value} {sn : List Str} {sub : List Value} {ab : Bool} {col : Option Bool} {dd : Option Addr} {k0 k1 k2 k3 k5 : Option Value}
    (h1 : K.lookup C = some (excClassObj nm q C N bs bm true sn sub ab col dd k0 k1 k2 k3 k5 "ValueError.__new__")) (h2 : PySem.HandSPX.refsVE bm = true)
    (h3 : PySem.W.findIn K (.ref C) "__setattr__" = some (some (.builtin "object.__setattr__"))) (h4 : PySem.W.subIn K (.ref C) (.type "BaseException") = some true) (h5 : PySem.W.typeIn K (.ref C) = some (.type "type")) (h6 : PySem.W.keepIn K (.ref C) = true)
    (h7 : PySem.W.mroIn K C (.ref C) = some true) (h8 : PySem.W.ks_superIn K C C "__init__" = some (some (.builtin "ValueError.__init__"))) (h9 : PySem.W.subIn K (.ref C) (.type "ValueError") = some true) : SupC K C C :=
  ⟨⟨⟨_, _, _, _, _, _, _, _, _, _, _, _, _, _, _, h1, h2⟩, h3, h4, h5, h6⟩, h7, h8, h9⟩
theorem excC_of {K : PySem.W.Frag} {D : Addr} (h1 : PySem.W.findIn K (.ref D) "__getattribute__" = some (some (.builtin "BaseException.__getattribute__"))) (h2 : PySem.W.findIn K (.ref D) "__getattr__" = some none) (h3 : PySem.W.subIn K (.ref D) (.type "BaseException") = some true)
    (h4 : PySem.W.hasDictIn K D = true) (h5 : PySem.W.findIn K (.ref D) "__class__" = some (some (.builtin "object.__class__"))) (h6 : PySem.W.specialIn K (.builtin "object.__class__") "__get__" = some (some (.builtin "getset_descriptor.__get__"))) (h7 : PySem.W.takesIn K (.builtin "object.__class__") = some true)
    (h8 : PySem.W.mroIn K D (.type "object") = some true) : ExcC K D ∧ XfC K D := ⟨⟨h1, h2, h3, h4, h5, h6, h7, h8⟩, ⟨h1, h2, h3, h4⟩⟩
theorem supK_of {P : Program} {K : PySem.W.Frag} {mg : Str → Option Value} {F : NdefX.NF} {cc D : Addr} {slf : Str} {f : Addr} {ccl : Value} {cdd : Option Addr} {vs : Array Value} {ccs : Array (Option Value)} {file : Str} {tf : Tok} {cl : Value} {cld : Option Addr} {csl : Array (Option Value)}
    (h1 : K.lookup F.c = some ⟨ccl, cdd, .fields vs, ccs⟩) (h2 : vs[2]? = some (.str file tf)) (h3 : ((P.main.file : Str) == file) = true) (h4 : K.lookup cc = some ⟨cl, cld, .cell (some (.ref D)), csl⟩) (h5 : PySem.W.hasDictIn K D = true)
    (h6 : PySem.W.codeIn K (.ref F.c) F.qual = true) (h7 : mg "super" = none)
    (q1 : F.cl = [(("__class__" : Str), cc)]) (q2 : F.scope.names.lookup ("super" : Str) = some .globalImplicit) (q3 : F.scope.names.lookup ("__class__" : Str) = some .free) (q4 : F.scope.names.lookup slf = some .local)
    (q5 : ((F.params.posonlyargs ++ F.params.args).head?.map (·.arg)) = some slf) (q6 : (P.main.scope.names.lookup ("super" : Str)).isSome = false) : SupK P K mg F f cc D slf := by
  obtain ⟨ar, e1, e2⟩ := Option.map_eq_some_iff.mp q5
  obtain ⟨cdD, hD, _⟩ := PySem.W.any_some h5
  exact ⟨q1, q2, q3, q4, ⟨ar, e1, e2⟩, ⟨_, _, _, _, _, _, h1, h2, h3⟩, ⟨_, _, _, h4⟩, ⟨cdD, hD⟩, q6, h7, h6⟩
end Rf

set_option maxHeartbeats 4000000
/-! tuple * int for any count; i ** j by bits -/
namespace Rf
open PySem PySem.Spec PyProof.Rows L2
theorem tuple_mulS (l : Addr) (items : Array Value) (n : Nat) (dd : Option Addr) (sl : Array (Option Value)) (x : Int) (u : Tok) (c0 : (decide (x < -(2 ^ 63)) || decide (x ≥ 2 ^ 63)) = false) (c1 : (items.isEmpty || x == 1) = true) :
    Meets (Builtin.«tuple.__mul__» ⟨[.ref l, .int x u], []⟩) (fun _ R s => s.heap.get? l = some { cls := .type "tuple", dict := dd, data := .seq items n, slots := sl } ∧ R (.ok (.ret (Value.ref l))) s) :=
  .of_wp fun prog w A R s h => by
    obtain ⟨hp, g, d, tk, os⟩ := s
    obtain ⟨hl, h⟩ := h
    have f1 := AutoSeq1.idx_int
    wp_walk using wpAny_loadPart' hl
    repeat (first
      | (refine wpAny_ite_false (decide_eq_false (by rw [c0]; exact Bool.false_ne_true)) ?_; wp_walk using wpAny_loadPart' hl)
      | (refine wpAny_ite_true (decide_eq_true (by rw [c1])) ?_; wp_walk using wpAny_loadPart' hl))
    exact ⟨_, rfl, h⟩
theorem tuple_mulN (l : Addr) (items : Array Value) (n : Nat) (dd : Option Addr) (sl : Array (Option Value)) (x : Int) (u : Tok) (c0 : (decide (x < -(2 ^ 63)) || decide (x ≥ 2 ^ 63)) = false) (c1 : (items.isEmpty || x == 1) = false) (c2 : (decide (x ≤ 0) || items.isEmpty) = true) :
    Meets (Builtin.«tuple.__mul__» ⟨[.ref l, .int x u], []⟩) (fun _ R s => s.heap.get? l = some { cls := .type "tuple", dict := dd, data := .seq items n, slots := sl } ∧
      R (.ok (.ret (Value.ref s.heap.objs.size))) { s with heap := s.heap.push { cls := Value.type "tuple", data := Data.seq #[] }, toks := s.toks }) :=
  .of_wp fun prog w A R s h => by
    obtain ⟨hp, g, d, tk, os⟩ := s
    obtain ⟨hl, h⟩ := h
    have f1 := AutoSeq1.idx_int
    wp_walk using wpAny_loadPart' hl
    repeat (first
      | (refine wpAny_ite_false (decide_eq_false (by rw [c0]; exact Bool.false_ne_true)) ?_; wp_walk using wpAny_loadPart' hl)
      | (refine wpAny_ite_false (decide_eq_false (by rw [c1]; exact Bool.false_ne_true)) ?_; wp_walk using wpAny_loadPart' hl)
      | (refine wpAny_ite_true (decide_eq_true (by rw [c2])) ?_; wp_walk using wpAny_loadPart' hl))
    exact ⟨_, rfl, h⟩
def rRepTW (K : PySem.W.Frag) : R2 := fun x y H Q => ∃ l k xs, x = .ref l ∧ y = .int k ∧ SqT K H l xs ∧ -(2 ^ 63) ≤ k ∧ k < 2 ^ 63 ∧ xs.length * k.toNat ≤ sizeLine ∧
  (if xs = [] ∨ k = 1 then Q (.ref l) H else ∀ p, H p = none → Q (.ref p) (upd H p (.tup (List.replicate k.toNat xs).flatten)))
open Classical in
theorem op_repTW {X : Cx} : OpR X (binaryOp .Mult) (rRepTW X.K) := by
  intro pins s σ H x y v u Q I rx ry h
  obtain ⟨l, k, xs, rfl, rfl, hT, h1, h2, hz, q⟩ := h
  cases rx
  obtain ⟨t, rfl⟩ := ry
  obtain ⟨its, r, ⟨⟨cls, dd, data, sl⟩, ho, hc, n, hd⟩, hs⟩ := I.tuple hT
  simp only at hc hd
  subst hc hd
  have hle : its.length = xs.length := r.length.symm
  have hsz0 : its.toArray.size = xs.length := by rw [List.size_toArray, hle]
  have c0 : (decide (k < -(2 ^ 63)) || decide (k ≥ 2 ^ 63)) = false := by
    rw [decide_eq_false (by omega), decide_eq_false (by omega)] <;> rfl
  have he : its.toArray.isEmpty = decide (xs = []) := by
    cases its with
    | nil =>
      have : xs = [] := List.eq_nil_of_length_eq_zero hle.symm
      rw [this]; rfl
    | cons a b =>
      have : xs ≠ [] := fun e => by rw [e] at hle; cases hle
      rw [decide_eq_false this]; rfl
  by_cases hh : xs = [] ∨ k = 1
  · rw [if_pos hh] at q
    have c1 : (its.toArray.isEmpty || k == 1) = true := by
      rw [he]
      rcases hh with hh | hh
      · rw [decide_eq_true hh]; rfl
      · rw [hh]; simp
    refine wpAny_binaryOp_repeat_ref (T := "tuple") (U := "int") (by decide) ⟨_, ho, rfl⟩ (fun s' => typeIs_int s' k t) noFill_tuple_mul F.fills_int_mul F.slot_int_rmul repeat_tuple F.slot_int_index.lookup
      (call_meets F.slot_int_rmul (typeIs_int s k t) F.entry_int_rmul (F.args_int_rmul_2 _ _) (int_rmul_tuple k t l its.toArray n dd sl)
        ⟨ho, rfl, ⟨_, ho, rfl⟩, call_meets F.slot_tuple_mul ⟨_, ho, rfl⟩ F.entry_tuple_mul (F.args_tuple_mul_2 _ _) (tuple_mulS l its.toArray n dd sl k t c0 c1) ⟨ho, ?_⟩⟩)
    exact ⟨.ref l, H, I, rfl, q⟩
  · rw [if_neg hh] at q
    have hne : xs ≠ [] := fun e => hh (.inl e)
    have hk1 : k ≠ 1 := fun e => hh (.inr e)
    have hi : its.toArray.isEmpty = false := by rw [he, decide_eq_false hne]
    have c1 : (its.toArray.isEmpty || k == 1) = false := by
      rw [hi, Bool.false_or]
      exact beq_eq_false_iff_ne.mpr hk1
    by_cases hk : k ≤ 0
    · have c2 : (decide (k ≤ 0) || its.toArray.isEmpty) = true := by rw [decide_eq_true hk]; rfl
      refine wpAny_binaryOp_repeat_ref (T := "tuple") (U := "int") (by decide) ⟨_, ho, rfl⟩ (fun s' => typeIs_int s' k t) noFill_tuple_mul F.fills_int_mul F.slot_int_rmul repeat_tuple F.slot_int_index.lookup
        (call_meets F.slot_int_rmul (typeIs_int s k t) F.entry_int_rmul (F.args_int_rmul_2 _ _) (int_rmul_tuple k t l its.toArray n dd sl)
          ⟨ho, rfl, ⟨_, ho, rfl⟩, call_meets F.slot_tuple_mul ⟨_, ho, rfl⟩ F.entry_tuple_mul (F.args_tuple_mul_2 _ _) (tuple_mulN l its.toArray n dd sl k t c0 c1 c2) ⟨ho, ?_⟩⟩)
      have e0 : k.toNat = 0 := by omega
      rw [e0] at q
      refine ⟨.ref s.heap.objs.size, _, I.laid (t' := s.toks) (o := .tup []) (fun b ob q => Heap.get?_push_of_some _ q) (Nat.le_refl _) ?_, rfl, q _ (I.hok.fresh (Nat.le_refl _))⟩
      exact ⟨by rw [sizeLine_eq]; simp, [], .nil, IsTup.new _ _⟩
    · have c2 : (decide (k ≤ 0) || its.toArray.isEmpty) = false := by
        rw [hi, Bool.or_false]
        exact decide_eq_false hk
      have hm : (((its.toArray.size : Nat) : Int) * k) = ((xs.length * k.toNat : Nat) : Int) := by
        rw [hsz0, Int.natCast_mul, Int.toNat_of_nonneg (by omega)]
      have hz' : xs.length * k.toNat ≤ 16777216 := by rw [sizeLine_eq] at hz; exact hz
      have flen : (List.replicate k.toNat its).flatten.length ≤ sizeLine := by
        rw [PyProof.Rows.lm_len_rep_flat, hle, Nat.mul_comm]
        exact hz
      have c4 : Builtin.Tuple.tupleTooMany (((its.toArray.size : Nat) : Int) * k) = false := by
        unfold Builtin.Tuple.tupleTooMany
        rw [hm]
        exact decide_eq_false (by omega)
      have c3 : ¬ ((its.toArray.size : Nat) : Int) * k > (2 ^ 63 - 1) / 8 := by rw [hm]; omega
      refine wpAny_binaryOp_repeat_ref (T := "tuple") (U := "int") (by decide) ⟨_, ho, rfl⟩ (fun s' => typeIs_int s' k t) noFill_tuple_mul F.fills_int_mul F.slot_int_rmul repeat_tuple F.slot_int_index.lookup
        (call_meets F.slot_int_rmul (typeIs_int s k t) F.entry_int_rmul (F.args_int_rmul_2 _ _) (int_rmul_tuple k t l its.toArray n dd sl)
          ⟨ho, rfl, ⟨_, ho, rfl⟩, call_meets F.slot_tuple_mul ⟨_, ho, rfl⟩ F.entry_tuple_mul (F.args_tuple_mul_2 _ _) (tuple_mulW l its.toArray n dd sl k t c0 c1 c2 c3 c4 (by rw [size_rep, List.size_toArray]; exact flen)) ⟨ho, ?_⟩⟩)
      rw [size_rep]
      refine ⟨.ref s.heap.objs.size, _, I.laid (t' := s.toks) (o := .tup (List.replicate k.toNat xs).flatten) (fun b ob q => Heap.get?_push_of_some _ q) (Nat.le_refl _) ?_, rfl, q _ (I.hok.fresh (Nat.le_refl _))⟩
      exact ⟨by rw [PyProof.Rows.lm_len_rep_flat, Nat.mul_comm]; exact hz, _, r.rep k.toNat, IsTup.new _ _⟩
noncomputable def oMulA (a b : D) (h : AH) : ER := match a with
  | .tup ds => (match b with
    | .int k => if RepOk ds.length k then .ok (.tup (List.replicate k.toNat ds).flatten) h else .stuck
    | _ => .stuck)
  | _ => oMul a b h
abbrev rMulA3 (K : PySem.W.Frag) : R2 := fun x y H Q => rMulAll x y H Q ∨ rRepTW K x y H Q
theorem op_mulA {X : Cx} : OpR X (binaryOp .Mult) (rMulA3 X.K) := op_mulAll.or op_repTW
open Classical in
theorem os_mulA {C : Ct} : OpS C (rMulA3 C.X.K) oMulA := by
  intro ι h H σ x y d1 d2 Q R r1 r2 p
  cases d1 with
  | tup ds =>
    cases d2 with
    | int k =>
      have p : PostE C ι h.length H σ (if RepOk ds.length k then .ok (.tup (List.replicate k.toNat ds).flatten) h else .stuck) Q := p
      split at p
      · rename_i hl
        obtain ⟨a, vs, rfl, s, rr⟩ := RD.tup.mp r1
        have l1 := rr.length
        refine .inr ⟨a, k, vs, rfl, RD.int.mp r2, s, hl.1, hl.2.1, by rw [← l1]; exact hl.2.2, ?_⟩
        by_cases hh : vs = [] ∨ k = 1
        · rw [if_pos hh]
          have e : (List.replicate k.toNat ds).flatten = ds := by
            rcases hh with hh | hh
            · subst hh
              have : ds = [] := List.eq_nil_of_length_eq_zero (by simpa using l1)
              subst this
              simp
            · subst hh
              show (List.replicate 1 ds).flatten = ds
              simp
          rw [e] at p
          exact p.here R r1
        · rw [if_neg hh]
          exact fun q hq => p.tup R (rr.rep _) hq
      · exact p.elim
    | _ => exact (show False from p).elim
  | _ => exact .inl (os_mul ι h H σ x y _ d2 Q R r1 r2 p)
/-! ** -/
def PowB (i j : Int) : Prop := 0 ≤ j ∧ (Builtin.Int.intBits i : Int) * j ≤ 2 ^ 27
noncomputable instance {i j : Int} : Decidable (PowB i j) := Classical.propDecidable _
theorem op_powB {X : Cx} : OpR X (binaryOp .Pow) (rI PowB fun i j => .int (i ^ j.toNat)) := opI fun _ _ _ _ _ _ _ hc q => pow_int hc.1 hc.2 q
noncomputable def oPowB (a b : D) (h : AH) : ER := match a, b with
  | .int i, .int j => if PowB i j then .ok (.int (i ^ j.toNat)) h else .stuck
  | _, _ => .stuck
theorem os_powB {C : Ct} : OpS C (rI PowB fun i j => .int (i ^ j.toNat)) oPowB := by
  intro ι h H σ x y d1 d2 Q R r1 r2 p
  unfold oPowB at p
  split at p
  · rename_i i j
    split at p
    · rename_i hc
      exact ⟨i, j, RD.int.mp r1, RD.int.mp r2, hc, p.here R (RD.int.mpr rfl)⟩
    · exact p.elim
  · exact p.elim
theorem powB {i j : Int} (h0 : 0 ≤ j) (h1 : j ≤ 100000) (h2 : i.natAbs < 2 ^ 1000) : PowB i j := by
  refine ⟨h0, ?_⟩
  have hb : Builtin.Int.intBits i ≤ 1000 := by
    unfold Builtin.Int.intBits
    split
    · omega
    · rename_i hi
      have hi : i ≠ 0 := by simpa using hi
      have := (Nat.log2_lt (n := i.natAbs) (k := 1000) (by omega)).mpr h2
      omega
  have a1 : (Builtin.Int.intBits i : Int) * j ≤ 1000 * j := Int.mul_le_mul_of_nonneg_right (by omega) h0
  omega
@[simp] theorem oMulA_int (i : Int) (b : D) (h : AH) : oMulA (.int i) b h = oMul (.int i) b h := rfl
@[simp] theorem oMulA_ref (r : Nat) (b : D) (h : AH) : oMulA (.ref r) b h = oMul (.ref r) b h := rfl
@[simp] theorem oMulA_tup (ds : List D) (k : Int) (h : AH) : oMulA (.tup ds) (.int k) h = if RepOk ds.length k then .ok (.tup (List.replicate k.toNat ds).flatten) h else .stuck := rfl
@[simp] theorem oPowB_ (i j : Int) (h : AH) : oPowB (.int i) (.int j) h = if PowB i j then .ok (.int (i ^ j.toNat)) h else .stuck := rfl
@[simp] theorem powB_18 : PowB 10 18 := powB (by decide) (by decide) (by decide)
@[simp] theorem powB_15 : PowB 10 15 := powB (by decide) (by decide) (by decide)
@[simp] theorem powB_60 : PowB 10 60 := powB (by decide) (by decide) (by decide)
@[simp] theorem powB_6 : PowB 10 6 := powB (by decide) (by decide) (by decide)
@[simp] theorem powB_600 : PowB (10 ^ 60) 10 := powB (by decide) (by decide) (by decide +kernel)
@[simp] theorem powB_600' : PowB 1000000000000000000000000000000000000000000000000000000000000 10 := powB (by decide) (by decide) (by decide +kernel)
end Rf

set_option maxHeartbeats 2000000
/-! quiet defs: they raise nothing, so they may be called where an exception is handled -/
namespace L2H
open PySem PySem.Spec PyProof.Rows
theorem RoomH.units {k : Nat} {A : Around} (hr : RoomH k A) : A.units + 64 < PySem.cLine := by have := hr.un; omega
theorem RoomH.units0 {k : Nat} {A : Around} (hr : RoomH k A) : A.units < PySem.cLine := by have := hr.un; omega
end L2H
namespace Rf
open PySem PySem.Spec PyProof.Rows L2
abbrev RoomQ := L2H.RoomH
theorem units65H {A : Around} {k : Nat} (hr : RoomQ k A) : A.units + 65 < cLine := by have := hr.un; omega
def CXN : CXT := fun _ _ _ _ _ _ => False
def cool (A : Around) : Around := { A with handled := none }
structure FnQ (P : Program) (w : World) (K : PySem.W.Frag) (mg : Str → Option Value) (base : Heap) (k : Nat) (f : Addr) (fd : FuncData) (ps : List Str) (sp : Sp) : Prop where
  ln : ∀ vs H Q E, sp vs H Q E → vs.length = ps.length
  go : ∀ (A : Around) (outer : List Env) (s : Shared) (H : Hp) (args : Args) (us : List Value) (vs : List V) (Q : VK) (E : XK), RoomQ k A → Env0 P w K mg base A outer s H → BindsTo s fd args (ps.zip us) → Vals vs us → sp vs H Q E → codeAny (model P w) A (.call (.ref f) args) (CR CXN outer P w H s Q E) s
theorem FnQ.mono {P : Program} {w : World} {K : PySem.W.Frag} {mg : Str → Option Value} {base : Heap} {j k : Nat} {f : Addr} {fd : FuncData} {ps : List Str} {sp : Sp} (F : FnQ P w K mg base j f fd ps sp) (h : j ≤ k) : FnQ P w K mg base k f fd ps sp :=
  ⟨F.ln, fun A outer s H args us vs Q E hr => F.go A outer s H args us vs Q E (hr.mono h)⟩
/-- the context of a quiet def's body -/
def cxQ (P : Program) (w : World) (K : PySem.W.Frag) (mg : Str → Option Value) (base : Heap) (N : List Str) (qual : Str) (scope : Scope) (f : Addr) (cd : Value) (A : Around) (outer : List Env) (s : Shared) (H : Hp) (E : XK) : Cx :=
  { cxOf CXN P w K mg base N qual scope f cd A outer s H E with calm := false }
theorem inv_quiet {P : Program} {w : World} {K : PySem.W.Frag} {mg : Str → Option Value} {base : Heap} {N : List Str} {qual : Str} {scope : Scope} {f : Addr} {cd : Value} {A : Around} {outer : List Env} {s s1 : Shared} {H H' : Hp} {E : XK} {σ : List (Option V)} {pins : List (Addr × Obj)}
    (hf : A.frames = some outer) (I : Inv (cxOf CXN P w K mg base N qual scope f cd (cool A) outer s H E) pins σ H' s1) : Inv (cxQ P w K mg base N qual scope f cd A outer s H E) pins σ H' s1 := by
  have o := I.ok
  have ok : (cxQ P w K mg base N qual scope f cd A outer s H E).Ok :=
    ⟨o.mod, o.kind, o.glob, o.blt, o.above, o.inj, o.has, o.cab, fun z => Bool.noConfusion (show false = true from z), Around.frames_deeper hf, o.stk, o.exf, o.bs, o.bsz, o.noex, o.exfs, o.funs, o.frf⟩
  exact ⟨ok, I.os, I.bare, I.base, I.loc, I.cell, I.free, I.freeC, I.pin, I.hok, I.len⟩
theorem fn_quiet {P : Program} {w : World} {K : PySem.W.Frag} {mg : Str → Option Value} {base : Heap} {x qual : Str} {st : Stmt} {f : Addr} {fd : FuncData} {N ps : List Str} {k : Nat} {sp : Sp} (F : Fun K x qual st f fd) (S : FnScope N ps (defScope st)) (ln : ∀ vs H Q E, sp vs H Q E → vs.length = ps.length)
    (hb : ∀ (cdv : Value) (A : Around) (outer : List Env) (s : Shared) (H : Hp) (vs : List V) (Q : VK) (E : XK), RoomQ k (A.deeper (envOfC qual (defScope st) s.heap.objs.size f cdv)) → sp vs H Q E → ∃ t, PSs (cxQ P w K mg base N qual (defScope st) f cdv A outer s H E) (defBody st) t ∧ t { nx := fun _ H' => Q .non H', rt := Q } (start N vs) H) :
    FnQ P w K mg base (k + 1) f fd ps sp := by
  obtain ⟨oc, od, kV, doc, pm, an, cdv, ct, osl, rfl, lk, hcd⟩ := F.ex
  refine ⟨ln, fun A outer s H args us vs Q E hr e0 hbd r hsp => ?_⟩
  have up : ∀ b o, base.get? b = some o → s.heap.get? b = some o := fun b o e => (e0.bs b o e).1
  have KX : K.In s.heap := e0.mod.kin.keeps up
  have lim : s.heap.NoLimit := e0.mod.nolimit.keeps up
  have kinds : ∀ y ∈ ps.zip us, (defScope st).names.lookup y.1 = some .local ∨ ((defScope st).names.lookup y.1 = some .cell ∧ ((cellsFrom (s.heap.objs.size + 1) (defScope st).names []).lookup y.1).isSome = true) := by
    rintro ⟨n, v⟩ hy
    exact (S.par n (List.of_mem_zip hy).1).imp id fun q => ⟨q, PySem.W.cellsFrom_some _ _ _ (.inl q)⟩
  refine codeAny_call_function hr.depth (KX _ _ lk) rfl S.co S.gen rfl (PySem.W.codeRec_of KX hcd)
    (hbd _ _ _ _ (wpAny_newFunctionEnv_cells S.kind kinds fun env he s1 x => ?_))
  subst he
  refine ⟨lim.keeps x.toInCall.keep,
    codeAny_func ?_⟩
  obtain ⟨t, ht, hq⟩ := hb cdv A outer s H vs Q E (hr.deeper _) hsp
  have e1 : Env0 P w K mg base (cool A) outer s H := ⟨e0.frames, e0.mod, e0.bs, e0.bsz, e0.funs, e0.frf, e0.hok, e0.bare⟩
  have I0 : Inv (cxOf CXN P w K mg base N qual (defScope st) f cdv (cool A) outer s H E) [] (start N vs) H s1 := inv_start S rfl e1 (ln _ _ _ _ hsp) r x
  have I := inv_quiet e0.frames I0
  refine wpAny_mono (ht.run [] s1 (start N vs) H _ I hq) (fun fl s' hs => ?_)
    fun e s' hs => hs
  cases fl with
  | ret u => exact let ⟨v, σ', H', J, rv, q⟩ := hs; ⟨v, H', J.os, J.bare, J.base, J.hok, rv, q⟩
  | next => exact let ⟨σ', H', J, q⟩ := hs; ⟨V.non, H', J.os, J.bare, J.base, J.hok, rfl, q⟩
  | brk => exact let ⟨_, _, _, q⟩ := hs; (show False from q).elim
  | cont => exact let ⟨_, _, _, q⟩ := hs; (show False from q).elim
/-- what does not raise -/
def quiet (o : ER) : ER := match o with
  | .exc _ _ _ => .stuck
  | o => o
def noX (F : List D → AH → ER) : List D → AH → ER := fun ds h => quiet (F ds h)
@[simp] theorem quiet_ok (d : D) (h : AH) : quiet (.ok d h) = .ok d h := rfl
@[simp] theorem noX_ (F : List D → AH → ER) (ds : List D) (h : AH) : noX F ds h = quiet (F ds h) := rfl
theorem fn_okQ {P : Program} {w : World} {K : PySem.W.Frag} {mg : Str → Option Value} {base : Heap} {x qual : Str} {st : Stmt} {f : Addr} {fd : FuncData} {N ps : List Str} {k n pl : Nat} {m : SM} (F : Fun K x qual st f fd) (S : FnScope N ps (defScope st)) (hN : N.length = n) (hp : ps.length = pl)
    (hm : ∀ cdv A outer s H E, RoomQ k (A.deeper (envOfC qual (defScope st) s.heap.objs.size f cdv)) → MB ⟨cxQ P w K mg base N qual (defScope st) f cdv A outer s H E, fun _ _ _ _ => False, none⟩ (defBody st) m) :
    FnQ P w K mg base (k + 1) f fd ps (spF K mg pl (noX (fsem n m))) := by
  subst hN hp
  refine fn_quiet F S (fun vs H Q E h => h.1) (fun cdv A outer s H vs Q E hr h => ?_)
  obtain ⟨hl, ι, h, ds, R, r, p⟩ := h
  obtain ⟨t, pt, s1⟩ := hm cdv A outer s H E hr
  refine ⟨t, pt, ?_⟩
  refine s1.run _ h _ H ι _ R ⟨start_re N.length r, trivial⟩ ?_
  unfold noX fsem at p
  generalize m (ds.map some ++ List.replicate (N.length - ds.length) none) h = o at p
  have key : ∀ (d : D) (h' : AH), PostF K mg ι h.length H (quiet (gc h (.ok d h'))) Q E → PostF K mg ι h.length H (.ok d h') Q E := fun d h' p => by
    refine PostF.gc R ?_
    have e : quiet (gc h (.ok d h')) = gc h (.ok d h') := by
      unfold gc
      dsimp only
      repeat' split
      all_goals rfl
    rwa [e] at p
  cases o with
  | nx e h1 => exact fun ι' H' σ' x R' V' => key _ _ p ι' H' .non x R' (RD.non.mpr rfl)
  | rt d h1 => exact fun ι' H' v x R' V' => key _ _ p ι' H' v x R' V'
  | exc c fs e h1 => exact (show False from p).elim
  | bk e h1 => exact (show False from p).elim
  | ct e h1 => exact (show False from p).elim
  | stuck => exact (show False from p).elim
theorem run_quiet {X : Cx} {k : Nat} {f : Addr} {fd : FuncData} {ps : List Str} {sp : Sp} {pins : List (Addr × Obj)} {σ : List (Option V)} {H : Hp} {s : Shared} {Q : VK} {E : XK} {us : List Value} {vs : List V} (F : FnQ X.prog X.w X.K X.mg X.base k f fd ps sp) (hr : RoomQ k X.A) (hb : Binds X.K fd ps [])
    (I : Inv X pins σ H s) (r : Vals vs us) (h : sp vs H Q E) : wpAny (model X.prog X.w) X.A (call (.ref f) us) (EP X pins σ Q) X.xe s := by
  have hl : us.length = ps.length := by rw [← r.length]; exact F.ln _ _ _ _ h
  have b := hb s us I.kIn (by simpa using hl)
  rw [List.append_nil] at b
  refine wpAny_call (codeAny_mono (F.go X.A X.stack s H ⟨us, []⟩ us vs Q E hr I.env0 b r h) ?_)
  intro o s' hq
  match o, hq with
  | .ok (.ret u), hq => exact I.after hq
  | .ok .next, hq => exact (show False from hq).elim
  | .ok .brk, hq => exact (show False from hq).elim
  | .ok .cont, hq => exact (show False from hq).elim
  | .error e, hq => exact (show False from hq).elim
theorem me_callQ {C : Ct} {k pl : Nat} {f : Addr} {fd : FuncData} {ps : List Str} {F : List D → AH → ER} {x : Str} {p pos : Pos} {e : Expr} {es : List Expr} {ml : LM} (F0 : FnQ C.X.prog C.X.w C.X.K C.X.mg C.X.base k f fd ps (spF C.X.K C.X.mg pl (noX F))) (hr : RoomQ k C.X.A) (hm : C.X.mg x = some (.ref f)) (hk : PySem.W.keepIn C.X.K (.ref f) = true) (hb : Binds C.X.K fd ps [])
    (ha : MA C (e :: es) ml) (hlen : (e :: es).length = pl := by rfl) (hg : Gl C.X x := by rfl) (hdb : (x == ("__debug__" : Str)) = false := by decide) (he : starEach (e :: es) C.X.env = (false, eval e C.X.env) :: starEach es C.X.env := by rfl) (hpl : (backTo pos (starEach es C.X.env)).any (·.1) = false := by rfl) :
    ME C (.Call (.Name x p) (e :: es) [] pos) (eCall (argn pl (noX F)) ml) := by
  obtain ⟨t, pa, s⟩ := ha
  refine ⟨fun σ H Q => t σ H fun vs H1 => spF C.X.K C.X.mg pl (noX F) vs H1 Q (fun _ _ _ => False), ⟨fun pins sh σ H Q I h => ?_⟩, ⟨fun env h σ H ι Q R V q => ?_⟩⟩
  · refine wpAny_Call_Name_kw (ld_glob I hg hm (PySem.W.callWith_K (h₀ := C.X.base) I.ok.mod.kin hk (thn (pa.run pos pins sh σ H _ I h) fun us s1 z => ?_) he hpl) hdb)
    obtain ⟨vs, H1, I1, r, q⟩ := z
    exact ⟨I1.kIn, run_quiet F0 hr hb I1 r q⟩
  · refine s.run env h σ H ι _ R V ?_
    unfold eCall at q
    cases hml : ml env h with
    | ok ds h1 =>
      rw [hml] at q
      refine fun ι' H' vs x R' r => ?_
      have q2 : PostE C ι h.length H σ (if ds.length = pl then noX F ds h1 else .stuck) Q := q
      by_cases hd : ds.length = pl
      · rw [if_pos hd] at q2
        refine ⟨by rw [← r.length]; exact hd, ι', h1, ds, R', r, ?_⟩
        have q3 := PostE.shift q2 x
        cases hF : F ds h1 with
        | ok d h2 =>
          have e : noX F ds h1 = .ok d h2 := by rw [noX_, hF]; rfl
          rw [e] at q3 ⊢
          exact q3
        | exc c fs h2 =>
          have e : noX F ds h1 = .stuck := by rw [noX_, hF]; rfl
          rw [e] at q3
          exact (show False from q3).elim
        | stuck =>
          have e : noX F ds h1 = .stuck := by rw [noX_, hF]; rfl
          rw [e] at q3
          exact (show False from q3).elim
      · rw [if_neg hd] at q2; exact q2.elim
    | exc c fs h1 => rw [hml] at q; exact q
    | stuck => rw [hml] at q; exact q
theorem roomQ_of {k : Nat} {A : Around} (r : Room k A) : RoomQ k A := L2H.roomH_of r
theorem roomQ_mark {k : Nat} {A : Around} {v : Option Value} (r : Room k A) : RoomQ k (A.mark v) := ⟨by cases v <;> exact r.dp, by cases v <;> exact r.un⟩
end Rf

set_option maxHeartbeats 1000000
/-! dicts whose keys are tuples; d.pop(k, x); range(i, j, c); what is never reached -/
namespace Rf
open PySem PySem.Spec PyProof.Rows L2
/-! ### never reached -/
def eStuck : EM := fun _ _ => .stuck
theorem me_never {C : Ct} {e : Expr} : ME C e eStuck := ⟨fun _ _ _ => False, ⟨fun _ _ _ _ _ _ h => h.elim⟩, ⟨fun env h σ H ι Q R V p => p⟩⟩
/-! ### any keys -/
section
variable {κ : Type} [DecidableEq κ]
def valG (kvs : List (κ × D)) (k : κ) : Option D := (kvs.find? fun kv => decide (kv.1 = k)).map (·.2)
def setG (kvs : List (κ × D)) (k : κ) (v : D) : List (κ × D) := if (kvs.any fun kv => decide (kv.1 = k)) = true then kvs.map (fun kv => if kv.1 = k then (kv.1, v) else kv) else kvs ++ [(k, v)]
def dropG (kvs : List (κ × D)) (k : κ) : List (κ × D) := kvs.filter fun kv => decide (kv.1 ≠ k)
variable {K : PySem.W.Frag} {ι : Nat → Addr} {n : Nat} {H : Hp}
theorem rows_ind {P : List (κ × D) → List (κ × V) → Prop} (h0 : P [] []) (h1 : ∀ k d v kvs ws, RD K ι n H d v → P kvs ws → P ((k, d) :: kvs) ((k, v) :: ws)) : ∀ {kvs : List (κ × D)} {ws : List (κ × V)}, kvs.map (·.1) = ws.map (·.1) → RDs K ι n H (kvs.map (·.2)) (ws.map (·.2)) → P kvs ws
  | [], [], _, _ => h0
  | [], w :: ws, e, _ => by cases e
  | kv :: kvs, [], e, _ => by cases e
  | (k, d) :: kvs, (k', v) :: ws, e, r => by
    rw [List.map_cons, List.map_cons] at e
    injection e with e1 e2
    obtain ⟨v0, vs, e3, r1, r2⟩ := RDs.cons.mp r
    rw [List.map_cons] at e3
    injection e3 with e4 e5
    have e1 : k = k' := e1
    have e4 : v = v0 := e4
    subst e1 e4
    exact h1 k d v kvs ws r1 (rows_ind h0 h1 e2 (by rw [← e5] at r2; exact r2))
theorem valG_V {kvs : List (κ × D)} {ws : List (κ × V)} (k : κ) (e : kvs.map (·.1) = ws.map (·.1)) (r : RDs K ι n H (kvs.map (·.2)) (ws.map (·.2))) : (valG kvs k = none ∧ valV ws k = none) ∨ ∃ d v, valG kvs k = some d ∧ valV ws k = some v ∧ RD K ι n H d v := by
  refine rows_ind (P := fun kvs ws => (valG kvs k = none ∧ valV ws k = none) ∨ ∃ d v, valG kvs k = some d ∧ valV ws k = some v ∧ RD K ι n H d v) (.inl ⟨rfl, rfl⟩) (fun k' d v kvs ws rv ih => ?_) e r
  unfold valG valV at *
  by_cases h : k' = k
  · right
    exact ⟨d, v, by simp [h], by simp [h], rv⟩
  · simpa [List.find?_cons, h] using ih
theorem any_V {kvs : List (κ × D)} {ws : List (κ × V)} (k : κ) (e : kvs.map (·.1) = ws.map (·.1)) : (kvs.any fun kv => decide (kv.1 = k)) = (ws.any fun kv => decide (kv.1 = k)) := by
  have a : ∀ {α : Type} (l : List (κ × α)), (l.any fun kv => decide (kv.1 = k)) = ((l.map (·.1)).any fun x => decide (x = k)) := fun l => by rw [List.any_map]; rfl
  rw [a, a, e]
theorem setG_V {kvs : List (κ × D)} {ws : List (κ × V)} (k : κ) {d : D} {v : V} (e : kvs.map (·.1) = ws.map (·.1)) (r : RDs K ι n H (kvs.map (·.2)) (ws.map (·.2))) (rv : RD K ι n H d v) :
    (setG kvs k d).map (·.1) = (putK ws k v).map (·.1) ∧ RDs K ι n H ((setG kvs k d).map (·.2)) ((putK ws k v).map (·.2)) := by
  unfold setG putK
  rw [any_V k e]
  by_cases q : (ws.any fun kv => decide (kv.1 = k)) = true
  · rw [if_pos q, if_pos q]
    clear q
    refine rows_ind (P := fun kvs ws => (kvs.map fun kv => if kv.1 = k then (kv.1, d) else kv).map (·.1) = (ws.map fun kv => if kv.1 = k then (kv.1, v) else kv).map (·.1) ∧ RDs K ι n H ((kvs.map fun kv => if kv.1 = k then (kv.1, d) else kv).map (·.2)) ((ws.map fun kv => if kv.1 = k then (kv.1, v) else kv).map (·.2))) ⟨rfl, RDs.nil'⟩ (fun k' d' v' kvs ws r' ih => ?_) e r
    by_cases h : k' = k
    · simp only [List.map_cons, if_pos h]
      exact ⟨by rw [ih.1], RDs.cons' rv ih.2⟩
    · simp only [List.map_cons, if_neg h]
      exact ⟨by rw [ih.1], RDs.cons' r' ih.2⟩
  · rw [if_neg q, if_neg q, List.map_append, List.map_append, List.map_append, List.map_append, e]
    exact ⟨rfl, RDs.append r (RDs.cons' rv RDs.nil')⟩
theorem dropG_V {kvs : List (κ × D)} {ws : List (κ × V)} (k : κ) (e : kvs.map (·.1) = ws.map (·.1)) (r : RDs K ι n H (kvs.map (·.2)) (ws.map (·.2))) :
    (dropG kvs k).map (·.1) = (dropK ws k).map (·.1) ∧ RDs K ι n H ((dropG kvs k).map (·.2)) ((dropK ws k).map (·.2)) := by
  unfold dropG dropK
  refine rows_ind (P := fun kvs ws => (kvs.filter fun kv => decide (kv.1 ≠ k)).map (·.1) = (ws.filter fun kv => decide (kv.1 ≠ k)).map (·.1) ∧ RDs K ι n H ((kvs.filter fun kv => decide (kv.1 ≠ k)).map (·.2)) ((ws.filter fun kv => decide (kv.1 ≠ k)).map (·.2))) ⟨rfl, RDs.nil'⟩ (fun k' d' v' kvs ws r' ih => ?_) e r
  by_cases h : k' = k
  · simpa [List.filter_cons, h] using ih
  · simp only [List.filter_cons, decide_eq_true (show (k' ≠ k) from h), if_true, List.map_cons]
    exact ⟨by rw [ih.1], RDs.cons' r' ih.2⟩
end
/-! ### tuple keys -/
def keysD : List D → Option (List Key)
  | [] => some []
  | d :: ds => match keyD d, keysD ds with
    | some k, some ks => some (k :: ks)
    | _, _ => none
theorem keysD_V {K : PySem.W.Frag} {ι : Nat → Addr} {n : Nat} {H : Hp} : ∀ {ds : List D} {vs : List V} {ks : List Key}, RDs K ι n H ds vs → keysD ds = some ks → vs = ks.map kV
  | [], vs, ks, r, e => by cases e; rw [RDs.nil.mp r]; rfl
  | d :: ds, vs, ks, r, e => by
    obtain ⟨v, vs', rfl, r1, r2⟩ := RDs.cons.mp r
    unfold keysD at e
    split at e
    · rename_i k ks' e1 e2
      cases e
      rw [List.map_cons, keyD_V r1 e1, keysD_V r2 e2]
    · cases e
def tupK : D → Option (List Key)
  | .tup ds => keysD ds
  | _ => none
def dictT (h : AH) : D → Option (List (List Key × D))
  | .ref i => match h[i]? with
    | some (.dT kvs) => some kvs
    | _ => none
  | _ => none
section
variable {K : PySem.W.Frag} {ι : Nat → Addr} {h : AH} {H : Hp} {d : D} {v : V}
theorem dictT_rel {kvs : List (List Key × D)} (R : Rel K ι h H) (r : RD K ι h.length H d v) (e : dictT h d = some kvs) :
    ∃ i ws, d = .ref i ∧ i < h.length ∧ v = .ref (ι i) ∧ H (ι i) = some (.dT ws) ∧ kvs.map (·.1) = ws.map (·.1) ∧ RDs K ι h.length H (kvs.map (·.2)) (ws.map (·.2)) := by
  unfold dictT at e
  split at e
  · rename_i i
    split at e
    · rename_i kvs' e2
      cases e
      obtain ⟨ws, hw, hk, rr⟩ := R.ob i _ e2
      have ev := RD.ref.mp r
      exact ⟨i, ws, rfl, ev.1, ev.2, hw, hk, rr⟩
    · cases e
  · cases e
theorem tupK_rel {ks : List Key} (r : RD K ι h.length H d v) (e : tupK d = some ks) : ∃ b, v = .ref b ∧ H b = some (.tup (ks.map kV)) := by
  unfold tupK at e
  split at e
  · obtain ⟨a, vs, ev, ha, rr⟩ := RD.tupX.mp r
    rw [keysD_V rr e] at ha
    exact ⟨a, ev, ha⟩
  · cases e
end
def oTGet (a b : D) (h : AH) : ER := match dictT h a, tupK b with
  | some kvs, some k => (match valG kvs k with
    | some d => .ok d h
    | none => .stuck)
  | _, _ => .stuck
def oTIn (b a : D) (h : AH) : ER := match dictT h a, tupK b with
  | some kvs, some k => .ok (.bl (valG kvs k).isSome) h
  | _, _ => .stuck
def oTNotIn (b a : D) (h : AH) : ER := match dictT h a, tupK b with
  | some kvs, some k => .ok (.bl (!(valG kvs k).isSome)) h
  | _, _ => .stuck
open Classical in
noncomputable def putT (o i v : D) (h : AH) : Option AH := match o, dictT h o, tupK i with
  | .ref r, some kvs, some k => if kvs.length < sizeLine then some (h.set r (.dT (setG kvs k v))) else none
  | _, _, _ => none
/-- {} for tuple keys -/
def eDictT : EM := fun _ h => .ok (.ref h.length) (h ++ [.dT []])
section
variable {C : Ct} {a b : Expr} {ma mb : EM} {pos : Pos}
theorem os_tget : OpS C rDGet oTGet := by
  intro ι h H σ x y d1 d2 Q R r1 r2 p
  unfold oTGet at p
  split at p
  · rename_i kvs k e1 e2
    obtain ⟨i, ws, rfl, hi, rfl, hw, hk, rr⟩ := dictT_rel R r1 e1
    obtain ⟨t, rfl, ht⟩ := tupK_rel r2 e2
    rcases valG_V k hk rr with ⟨q, _⟩ | ⟨d, v, q1, q2, q3⟩
    · rw [q] at p; exact p.elim
    · rw [q1] at p
      refine ⟨ι i, v, rfl, ?_, p.here R q3⟩
      rw [← q2]
      exact DGet.t hw ht
  · exact p.elim
theorem isSome_V {K : PySem.W.Frag} {ι : Nat → Addr} {n : Nat} {H : Hp} {κ : Type} [DecidableEq κ] {kvs : List (κ × D)} {ws : List (κ × V)} (k : κ) (e : kvs.map (·.1) = ws.map (·.1)) (r : RDs K ι n H (kvs.map (·.2)) (ws.map (·.2))) : (valV ws k).isSome = (valG kvs k).isSome := by
  rcases valG_V k e r with ⟨q1, q2⟩ | ⟨d, v, q1, q2, q3⟩ <;> rw [q1, q2] <;> rfl
theorem os_tin : OpS C rDIn oTIn := by
  intro ι h H σ x y d1 d2 Q R r1 r2 p
  unfold oTIn at p
  split at p
  · rename_i kvs k e1 e2
    obtain ⟨i, ws, rfl, hi, rfl, hw, hk, rr⟩ := dictT_rel R r2 e1
    obtain ⟨t, rfl, ht⟩ := tupK_rel r1 e2
    refine ⟨ι i, valV ws k, rfl, DGet.t hw ht, ?_⟩
    rw [isSome_V k hk rr]
    exact p.here R (RD.bl.mpr rfl)
  · exact p.elim
theorem os_tnotin : OpS C rDNotIn oTNotIn := by
  intro ι h H σ x y d1 d2 Q R r1 r2 p
  unfold oTNotIn at p
  split at p
  · rename_i kvs k e1 e2
    obtain ⟨i, ws, rfl, hi, rfl, hw, hk, rr⟩ := dictT_rel R r2 e1
    obtain ⟨t, rfl, ht⟩ := tupK_rel r1 e2
    refine ⟨ι i, valV ws k, rfl, DGet.t hw ht, ?_⟩
    rw [isSome_V k hk rr]
    exact p.here R (RD.bl.mpr rfl)
  · exact p.elim
theorem me_tget (hu : C.X.A.units + 1 < cLine) (ha : ME C a ma) (hb : ME C b mb) (hs : NoSl b := by intro _ _; rfl) : ME C (.Subscript a b pos) (eOp oTGet ma mb) := by
  obtain ⟨ta, pa, sa⟩ := ha
  obtain ⟨tb, pb, sb⟩ := hb
  exact ⟨_, pe_dget hu pa pb hs, sa.op sb os_tget⟩
theorem me_tin (hu : C.X.A.units + 1 < cLine) (ha : ME C a ma) (hb : ME C b mb) (hm : behindInMarks .In b = false := by rfl) : ME C (.Compare a [.In] [b] pos) (eOp oTIn ma mb) := by
  obtain ⟨ta, pa, sa⟩ := ha
  obtain ⟨tb, pb, sb⟩ := hb
  exact ⟨_, pe_cmp (pc_din hu pa pb) hm, sa.op sb os_tin⟩
theorem me_tnotin (hu : C.X.A.units + 1 < cLine) (ha : ME C a ma) (hb : ME C b mb) (hm : behindInMarks .NotIn b = false := by rfl) : ME C (.Compare a [.NotIn] [b] pos) (eOp oTNotIn ma mb) := by
  obtain ⟨ta, pa, sa⟩ := ha
  obtain ⟨tb, pb, sb⟩ := hb
  exact ⟨_, pe_cmp (pc_dnotin hu pa pb) hm, sa.op sb os_tnotin⟩
theorem mt_tin (hu : C.X.A.units + 1 < cLine) (ha : ME C a ma) (hb : ME C b mb) (hm : behindInMarks .In b = false := by rfl) : MT C (.Compare a [.In] [b] pos) (eOp oTIn ma mb) := by
  obtain ⟨ta, pa, sa⟩ := ha
  obtain ⟨tb, pb, sb⟩ := hb
  exact ⟨_, pt_cmp (pc_din hu pa pb) hm, (sa.op sb os_tin).test⟩
theorem mt_tnotin (hu : C.X.A.units + 1 < cLine) (ha : ME C a ma) (hb : ME C b mb) (hm : behindInMarks .NotIn b = false := by rfl) : MT C (.Compare a [.NotIn] [b] pos) (eOp oTNotIn ma mb) := by
  obtain ⟨ta, pa, sa⟩ := ha
  obtain ⟨tb, pb, sb⟩ := hb
  exact ⟨_, pt_cmp (pc_dnotin hu pa pb) hm, (sa.op sb os_tnotin).test⟩
theorem ss_dictT : SetS C rSetD putT := by
  intro ι h H x y z d1 d2 d3 h' Q R r1 r2 r3 e k
  unfold putT at e
  split at e
  · rename_i r kvs key e2 e1
    split at e
    · rename_i hl
      cases e
      obtain ⟨i, ws, ei, hi, rfl, hw, hk, rr⟩ := dictT_rel R r1 e1
      cases ei
      obtain ⟨t, rfl, ht⟩ := tupK_rel r2 e2
      have ll : ws.length < sizeLine := by
        have := congrArg List.length hk
        rw [List.length_map, List.length_map] at this
        omega
      refine ⟨ι r, _, rfl, DPut.t hw ht ll, ?_⟩
      refine k ι _ (by rw [List.length_set]; exact Ext.put R hi) (R.put hi fun xx => ⟨_, upd_same, ?_⟩)
      obtain ⟨s1, s2⟩ := setG_V key hk rr r3
      exact ⟨s1, s2.mono (xx.grow R)⟩
    · cases e
  · cases e
theorem me_dictT : ME C (.Dict [] [] pos) eDictT := by
  refine ⟨_, pe_dnewT, ⟨fun env h σ H ι Q R V p => fun a ha => ?_⟩⟩
  have el : (h ++ [AO.dT []]).length = h.length + 1 := by simp
  have x : Ext ι h.length H (ιset ι h.length a) (h.length + 1) (upd H a (.dT [])) := Ext.new ha
  refine p (ιset ι h.length a) _ (.ref a) (by rw [el]; exact x) (R.new ha fun x => ⟨[], upd_same, rfl, RDs.nil'⟩) ?_
  rw [el]
  exact RD.ref.mpr ⟨Nat.lt_succ_self _, by rw [ιset_same]⟩
end
/-! ### d.pop(k, x) -/
def isDict (h : AH) (d : D) : Bool := (dictOf h d).isSome
def oPop2 (a b z : D) (h : AH) : ER := match a, dictOf h a, keyD b with
  | .ref r, some kvs, some k => (match valG kvs k with
    | some d => .ok d (h.set r (.dK (dropG kvs k)))
    | none => .ok z h)
  | _, _, _ => .stuck
def ePop2 (a b z : EM) : EM := fun env h => (a env h).then fun d1 h1 => if isDict h1 d1 then (b env h1).then fun d2 h2 => (z env h2).then fun d3 h3 => oPop2 d1 d2 d3 h3 else .stuck
theorem me_pop2 {C : Ct} {o e f : Expr} {mo me mf : EM} {apos cpos : Pos} (ho : ME C o mo) (he : ME C e me) (hf : ME C f mf) (m : M2 C.X o "pop" apos e f cpos := by exact ⟨rfl, rfl, rfl, rfl⟩) : ME C (.Call (.Attribute o "pop" apos) [e, f] [] cpos) (ePop2 mo me mf) := by
  obtain ⟨to, po, so⟩ := ho
  obtain ⟨te, pe, se⟩ := he
  obtain ⟨tf, pf, sf⟩ := hf
  refine ⟨_, pe_dpop2 po pe pf m, ⟨fun env h σ H ι Q R V p => ?_⟩⟩
  refine so.then R V p fun d1 h1 ι1 H1 v1 x1 R1 V1 r1 p1 => ?_
  split at p1
  · rename_i hd
    obtain ⟨kvs, hkvs⟩ := Option.isSome_iff_exists.mp hd
    obtain ⟨i, ws, rfl, hi, rfl, hw, hk, rr⟩ := dictOf_rel R1 r1 hkvs
    refine ⟨ι1 i, rfl, .inl ⟨ws, .inl hw⟩, ?_⟩
    refine se.then R1 V1 p1 fun d2 h2 ι2 H2 v2 x2 R2 V2 r2 p2 => ?_
    refine sf.then R2 V2 p2 fun d3 h3 ι3 H3 v3 x3 R3 V3 r3 p3 => ?_
    unfold oPop2 at p3
    have r1' := (r1.mono (x2.grow R1)).mono (x3.grow R2)
    have r2' := r2.mono (x3.grow R2)
    split at p3
    · rename_i r kvs3 k e0 e1 e2
      cases e0
      obtain ⟨j, ws3, ej, hj, ev, hw3, hk3, rr3⟩ := dictOf_rel R3 r1' e1
      cases ej
      have ei : ι1 i = ι3 i := by injection ev
      refine ⟨ws3, k, by rw [ei]; exact hw3, keyD_V r2' e2, fun v hv => ?_, fun hv => ?_⟩
      · rcases valG_V k hk3 rr3 with ⟨q1, q2⟩ | ⟨d, v', q1, q2, q3⟩
        · rw [q2] at hv; cases hv
        · rw [q2] at hv
          cases hv
          rw [q1] at p3
          obtain ⟨s1, s2⟩ := dropG_V k hk3 rr3
          have xx : Ext ι3 h3.length H3 ι3 h3.length (upd H3 (ι3 i) (.dK (dropK ws3 k))) := Ext.put R3 hj
          rw [ei]
          refine p3 ι3 _ _ (by rw [List.length_set]; exact xx) (R3.put hj fun xx => ⟨_, upd_same, s1, s2.mono (xx.grow R3)⟩) (by rw [List.length_set]; exact q3.mono (xx.grow R3))
      · rcases valG_V k hk3 rr3 with ⟨q1, q2⟩ | ⟨d, v', q1, q2, q3⟩
        · rw [q1] at p3; exact p3.here R3 r3
        · rw [q2] at hv; cases hv
    · exact p3.elim
  · exact p1.elim
/-! ### a[b] of a row or of a dict -/
noncomputable def oIxD (a b : D) (h : AH) : ER := if isDict h a = true then oDGet a b h else oIx a b h
theorem me_ixD {C : Ct} {a b : Expr} {ma mb : EM} {pos : Pos} (hu : C.X.A.units + 1 < cLine) (ha : ME C a ma) (hb : ME C b mb) (hs : NoSl b := by intro _ _; rfl) (hp : PlainIx b := by exact fun _ _ => rfl) : ME C (.Subscript a b pos) (eOp oIxD ma mb) := by
  obtain ⟨ta, pa, sa⟩ := ha
  obtain ⟨tb, pb, sb⟩ := hb
  have p1 := pe_ix (X := C.X) (pos := pos) ix_seq pa pb hp
  have p2 := pe_dget (X := C.X) (pos := pos) hu pa pb hs
  refine ⟨fun σ H Q => _ ∨ _, ⟨fun pins s σ H Q I h => h.elim (p1.run pins s σ H Q I) (p2.run pins s σ H Q I)⟩, ⟨fun env h σ H ι Q R V p => ?_⟩⟩
  have key : eOp oIxD ma mb env h = eOp oIx ma mb env h ∨ eOp oIxD ma mb env h = eOp oDGet ma mb env h := by
    unfold eOp
    cases ma env h with
    | exc c fs h1 => exact .inl rfl
    | stuck => exact .inl rfl
    | ok d1 h1 =>
      show ((mb env h1).then fun d2 h2 => oIxD d1 d2 h2) = ((mb env h1).then fun d2 h2 => oIx d1 d2 h2) ∨ ((mb env h1).then fun d2 h2 => oIxD d1 d2 h2) = ((mb env h1).then fun d2 h2 => oDGet d1 d2 h2)
      cases mb env h1 with
      | exc c fs h2 => exact .inl rfl
      | stuck => exact .inl rfl
      | ok d2 h2 =>
        show oIxD d1 d2 h2 = oIx d1 d2 h2 ∨ oIxD d1 d2 h2 = oDGet d1 d2 h2
        unfold oIxD
        by_cases q : isDict h2 d1 = true
        · exact .inr (if_pos q)
        · exact .inl (if_neg q)
  rcases key with k | k
  · rw [k] at p
    exact .inl ((sa.op sb os_ix).run env h σ H ι Q R V p)
  · rw [k] at p
    exact .inr ((sa.op sb os_dget).run env h σ H ι Q R V p)
/-! ### range(i, j, -1) -/
def rgD (i : Int) (n : Nat) : List D := (List.range n).map fun k => .int (i + (k : Nat) * (-1))
def RgB3 (i j : Int) : Prop := -(2 ^ 62) ≤ i ∧ i < 2 ^ 62 ∧ -(2 ^ 62) ≤ j ∧ j < 2 ^ 62
noncomputable instance {i j : Int} : Decidable (RgB3 i j) := Classical.propDecidable _
noncomputable def iRangeD (l : LM) : IM := fun e h => match l e h with
  | .ok [.int i, .int j, .int c] h1 => if RgB3 i j ∧ c = -1 then .ok (stat (rgD i (i - j).toNat)) h1 else .stuck
  | .ok _ _ => .stuck
  | .exc c fs h1 => .exc c fs h1
  | .stuck => .stuck
theorem itr_rangeD {K : PySem.W.Frag} {ι : Nat → Addr} {n m : Nat} {H : Hp} {i : Int} : ItR K (Itc i (-1) m) (stat (rgD i m)) ι n H := by
  refine itr_stat fun k ι' h' H' x R => ⟨fun e => ?_, fun d e => ?_⟩
  · have := List.getElem?_eq_none_iff.mp e
    simpa [rgD, Itc] using this
  · have hk : k < m := by have := (List.getElem?_eq_some_iff.mp e).1; simpa [rgD] using this
    unfold rgD at e
    rw [List.getElem?_map, List.getElem?_range hk] at e
    have e := Option.some.inj e
    subst e
    refine ⟨hk, fun y H2 hy => ?_⟩
    obtain ⟨rfl, rfl⟩ := hy
    exact ⟨ι', .refl, R, RD.int.mpr rfl⟩
theorem mi_rangeD {C : Ct} {tg a b c : Expr} {ml : LM} {p pos : Pos} (hm : C.X.mg "range" = none) (ha : MA C [a, b, c] ml) (hg : Gl C.X "range" := by rfl) (hs : starEach [a, b, c] C.X.env = (false, eval a C.X.env) :: starEach [b, c] C.X.env := by rfl) (hpl : (backTo pos (starEach [b, c] C.X.env)).any (·.1) = false := by rfl) : MI C tg (.Call (.Name "range" p) [a, b, c] [] pos) (iRangeD ml) := by
  obtain ⟨t, pa, sa⟩ := ha
  refine ⟨_, pi_range3 hg hm pa hs hpl, ⟨fun env h σ H ι Q R V p => ?_⟩⟩
  refine sa.run env h σ H ι _ R V ?_
  unfold iRangeD at p
  cases hm : ml env h with
  | exc c fs h1 => rw [hm] at p; exact p
  | stuck => rw [hm] at p; exact p
  | ok ds h1 =>
    rw [hm] at p
    split at p
    · rename_i i j c h1' e
      injection e with e1 e2
      subst e1 e2
      split at p
      · rename_i hj
        obtain ⟨⟨j1, j2, j3, j4⟩, rfl⟩ := hj
        refine fun ι' H' vs x R' r => ?_
        obtain ⟨v1, r1, rfl, q1, rr⟩ := RDs.cons.mp r
        obtain ⟨v2, r2, rfl, q2, rr⟩ := RDs.cons.mp rr
        obtain ⟨v3, r3, rfl, q3, rr⟩ := RDs.cons.mp rr
        rw [RDs.nil.mp rr, RD.int.mp q1, RD.int.mp q2, RD.int.mp q3]
        exact ⟨i, j, -1, _, rfl, RgC.neg j1 j2 j3 j4, p.here x R' itr_rangeD⟩
      · exact p.elim
    · rename_i e; cases e; exact p.elim
    · rename_i e; cases e
    · rename_i e; cases e
end Rf

set_option maxHeartbeats 1000000
/-! t.index(x) of a tuple -/
namespace Rf
open PySem PySem.Spec PyProof.Rows L2
section
variable {X : Cx}
def rIndexT (K : PySem.W.Frag) : V → List V → Hp → VK → Prop := fun x xs H Q => ∃ (a : Addr) (y : V) (d : PyData) (ds : List PyData) (j : Nat) (z : PyData), x = V.ref a ∧ xs = [y] ∧ Dp K H (V.ref a) (.tuple ds) ∧ Dp K H y d ∧
  SeqAt.shaped (.tuple ds) = true ∧ SeqAt.shaped d = true ∧ ds[j]? = some z ∧ PyData.eqv z d = true ∧ (∀ (m : Nat) (z' : PyData), m < j → ds[m]? = some z' → PyData.eqv z' d = false) ∧ Q (.int (j : Nat)) H
theorem mt_indexT (hu : X.A.units + 65 < cLine) : MtR X "tuple.index" (rIndexT X.K) := by
  intro pins s σ H x xs v us Q I rx rxs h
  obtain ⟨a, y, d, ds, j, z, rfl, rfl, hl, hy, sl, sd, hz, hzj, hno, q⟩ := h
  cases rx
  cases rxs with
  | cons ry rt =>
    rename_i uy ut
    cases rt
    obtain ⟨bs, r1⟩ := Dp.reads I d y uy hy ry
    have hxs : PyData.canLayAll0 ds = true := SeqAt.canLay_of_shaped sl
    have hroom : X.A.units + 1 + min (PyData.depthAll ds) d.depth < cLine := room_in_shaped sd hu
    cases hl with
    | tup hs ha =>
      obtain ⟨its, rv, ht, hlen⟩ := I.tuple hs
      obtain ⟨⟨cls, dd, data, sls⟩, ho, hc, n, hdt⟩ := id ht
      simp only at hc hdt
      subst hc hdt
      obtain ⟨as, h4⟩ := Dp.readsAll I ds _ its ha rv
      have hn : its.length = ds.length := SeqAt.ReadsAll.length ds its as h4
      have hmap : its.map (SeqAt.readOf s.heap) = ds := SeqAt.readsAll_map ds its as hxs h4
      obtain ⟨hjd, _⟩ := List.getElem?_eq_some_iff.mp hz
      have hjl : j < its.length := by omega
      have hj : j < its.toArray.size := by simpa using hjl
      have at_ : ∀ (m : Nat) (hm : m < its.toArray.size) (z' : PyData), ds[m]? = some z' → SeqAt.readOf s.heap its.toArray[m] = z' := by
        intro m hm z' hz'
        have hml : m < its.length := by simpa using hm
        rw [← hmap, List.getElem?_map, List.getElem?_eq_getElem hml] at hz'
        have e1 : SeqAt.readOf s.heap its[m] = z' := Option.some.inj (show some (SeqAt.readOf s.heap its[m]) = some z' from hz')
        simpa using e1
      refine call_meets PySem.F.slot_tuple_index ⟨_, ho, rfl⟩ PySem.F.entry_tuple_index (PySem.F.args_tuple_index_2 _ _)
        (TI.tuple_indexAt a its.toArray n dd sls uy (fun u => PyData.eqv (SeqAt.readOf s.heap u) d) j hj ?_ ?_) ⟨ho, SeqAt.items_eqAt (vs := its.toArray) (show ReadsAll s.heap its.toArray.toList ds as from h4) r1 hxs (SeqAt.canLay_of_shaped sd) hroom, ?_⟩
      · show PyData.eqv (SeqAt.readOf s.heap its.toArray[j]) d = true
        rw [at_ j hj z hz]
        exact hzj
      · intro m hm hmj
        have hmd : m < ds.length := by omega
        have hz' : ds[m]? = some ds[m] := List.getElem?_eq_getElem hmd
        show PyData.eqv (SeqAt.readOf s.heap its.toArray[m]) d = false
        rw [at_ m hm _ hz']
        exact hno m _ hmj hz'
      · exact ⟨.int (j : Nat), H, I.tok _, ⟨_, rfl⟩, q⟩
end
section
variable {X : Cx} {o e : Expr} {es : List Expr} {to : TE} {t : TA} {name : Str} {apos cpos : Pos} {id : String} {r : V → List V → Hp → VK → Prop}
def tKT (r : V → List V → Hp → VK → Prop) (to : TE) (t : TA) : TE := fun σ H Q => to σ H fun x H1 => (∃ a vs, x = .ref a ∧ KtL H1 a vs) ∧ t σ H1 fun xs H2 => r x xs H2 Q
/-- a method of a tuple whose object is known -/
theorem pe_kt (slot : Slot "tuple" name id) (hty : typeOf (.builtin id) = pure (.type "method_descriptor")) (hm : MtR X id r) (ho : PE X o to) (ha : PA X (e :: es) t)
    (hbase : attributeBase o name X.env (eval o X.env) = eval o X.env := by rfl)
    (hfew : ((backTo cpos (starEach (e :: es) X.env)).all (fun x => !x.1) && (backToKw cpos (keywordEach [] X.env)).all (fun x => x.1.isSome)
      && decide ((e :: es).length + ([] : List Keyword).length + (if ([] : List Keyword).isEmpty then 0 else 1) < 30)) = true := by rfl)
    (hline : (apos.endLine == cpos.line) = true := by rfl) (hs : starEach (e :: es) X.env = (false, eval e X.env) :: starEach es X.env := by rfl) (hplain : (backTo cpos (starEach es X.env)).any (·.1) = false := by rfl) :
    PE X (.Call (.Attribute o name apos) (e :: es) [] cpos) (tKT r to t) := by
  refine ⟨fun pins s σ H Q I h => ?_⟩
  refine wpAny_Call_method_late hbase hfew hline rfl (thn (ho.run pins s σ H _ I h) fun v s1 ⟨x, H1, I1, r1, ty, q1⟩ => ?_)
  obtain ⟨a, vs, rfl, ob, hob, hd⟩ := ty
  obtain ⟨e1, _, its, _, p⟩ := I1.hok a _ hob
  cases r1
  refine ⟨"tuple", id, PySem.F.plainAttrs_tuple, slot, hty, p.typeIs, (fun b eb => by cases eb; exact ⟨ob, e1, hd⟩), ?_⟩
  have hA := ha.run cpos pins s1 σ H1 _ I1 q1
  rw [hs] at hA ⊢
  refine Calls.callWith_builtin (by show (false || (backTo cpos (starEach es X.env)).any (·.1)) = false; rw [hplain] <;> rfl) (Calls.evalArgs_plain ?_)
  exact thn hA fun us s2 ⟨vs, H2, I2, r2, q2⟩ => hm pins s2 σ H2 _ vs _ us Q I2 (show RelV (V.ref a) (Value.ref a) from rfl) r2 q2
/-- tuple(x) of a list, its object known -/
theorem call_tupleK_of : CallR X (.type "tuple") (fun xs H Q => ∃ p ys, xs = [.ref p] ∧ SqL X.K H p ys ∧ ∀ (l : Addr) (o : Obj), H l = none → o.dict = none → Q (.ref l) (upd H l (.frz o (.tup ys)))) := by
  intro pins s σ H xs us Q I r h
  obtain ⟨p, ys, rfl, hq, q⟩ := h
  obtain ⟨u, rfl, rx⟩ := vals1 r
  cases rx
  obtain ⟨its, r', pl, hz⟩ := I.list hq
  have hlen := r'.length
  refine call_tuple_list pl.isList (fun h' kp => ?_) (by simp only [List.size_toArray] <;> omega)
  have I1 : Inv X pins σ H { s with heap := h' } := I.kept (t' := s.toks) kp
  have I2 : Inv X pins σ (upd H h'.objs.size (.frz { cls := .type "tuple", data := .seq its.toArray } (.tup ys))) { s with heap := h'.push { cls := .type "tuple", data := .seq its.toArray } } :=
    I1.laid (t' := s.toks) (fun b o e => Heap.get?_push_of_some _ e) (Nat.le_refl _) (show ObjOk X.prog X.w _ _ _ (.frz _ (.tup ys)) from ⟨Heap.get?_push_size _ rfl, hz, its, r', IsTup.new _ _⟩)
  exact ⟨.ref h'.objs.size, _, I2, rfl, q _ _ (I1.hok.fresh (Nat.le_refl _)) rfl⟩
end
def mIndexT (d : D) (ds : List D) (h : AH) : ER := match d, ds with
  | .kt es, [y] => (match (D.kt es).toP h 20, y.toP h 20 with
    | some (.tuple ps), some p => (match firstAt p ps with
      | some j => .ok (.int (j : Nat)) h
      | none => .stuck)
    | _, _ => .stuck)
  | _, _ => .stuck
def cTupleK (ds : List D) (h : AH) : ER := match ds with
  | [d] => (match listOf h d with
    | some es => .ok (.kt es) h
    | none => .stuck)
  | _ => .stuck
section
variable {C : Ct}
theorem cs_tupleK : CallS C (fun xs H Q => ∃ p ys, xs = [.ref p] ∧ SqL C.X.K H p ys ∧ ∀ (l : Addr) (o : Obj), H l = none → o.dict = none → Q (.ref l) (upd H l (.frz o (.tup ys)))) cTupleK := by
  intro ι h H σ xs ds Q R r p
  unfold cTupleK at p
  split at p
  · rename_i d
    obtain ⟨v, rfl, q1⟩ := r.one
    split at p
    · rename_i es e
      obtain ⟨a, vs, rfl, s, rr⟩ := listOf_sq R q1 e
      refine ⟨a, vs, rfl, s, fun l o hl hd => ?_⟩
      have x : Ext ι h.length H ι h.length (upd H l (.frz o (.tup vs))) := Ext.tup hl
      exact p ι _ (.ref l) x (R.tup hl x) (RD.kt.mpr ⟨l, vs, rfl, ⟨o, upd_same, hd⟩, rr.mono (x.grow R)⟩)
    · exact p.elim
  · exact p.elim
theorem ms_indexT : MtS C (rIndexT C.X.K) mIndexT := by
  intro ι h H σ x xs d ds Q R r rs p
  unfold mIndexT at p
  split at p
  · rename_i es y
    split at p
    · rename_i ps q e1 e2
      split at p
      · rename_i j ej
        obtain ⟨w, rfl, rw_⟩ := rs.one
        obtain ⟨a1, a2, a3⟩ := toP_dp R _ _ _ _ r e1
        obtain ⟨b1, b2, b3⟩ := toP_dp R _ _ _ _ rw_ e2
        obtain ⟨z, z1, z2, z3⟩ := firstAt_spec ej
        obtain ⟨a, vs, rfl, _⟩ := RD.kt.mp r
        exact ⟨_, w, q, ps, j, z, rfl, rfl, a1, b1, toP_shaped a2 a3, toP_shaped b2 b3, z1, z2, z3, p.here R (RD.int.mpr rfl)⟩
      · exact p.elim
    · exact p.elim
  · exact p.elim
def isKt : D → Bool
  | .kt _ => true
  | _ => false
def eMethT (g : D → List D → AH → ER) (o : EM) (l : LM) : EM := fun env h => (o env h).then fun d h1 => if isKt d then (l env h1).then fun ds h2 => g d ds h2 else .stuck
@[simp] theorem eMethT_ (g : D → List D → AH → ER) (o : EM) (l : LM) (env : AE) (h : AH) : eMethT g o l env h = (o env h).then fun d h1 => if isKt d then (l env h1).then fun ds h2 => g d ds h2 else .stuck := rfl
@[simp] theorem isKt_kt (ds : List D) : isKt (.kt ds) = true := rfl
theorem me_methT {o e : Expr} {es : List Expr} {mo : EM} {ml : LM} {name : Str} {apos cpos : Pos} {id : String} {r : V → List V → Hp → VK → Prop} {g : D → List D → AH → ER}
    (slot : Slot "tuple" name id) (hty : typeOf (.builtin id) = pure (.type "method_descriptor")) (hm : MtR C.X id r) (hs : MtS C r g) (ho : ME C o mo) (ha : MA C (e :: es) ml)
    (hbase : attributeBase o name C.X.env (eval o C.X.env) = eval o C.X.env := by rfl)
    (hfew : ((backTo cpos (starEach (e :: es) C.X.env)).all (fun x => !x.1) && (backToKw cpos (keywordEach [] C.X.env)).all (fun x => x.1.isSome)
      && decide ((e :: es).length + ([] : List Keyword).length + (if ([] : List Keyword).isEmpty then 0 else 1) < 30)) = true := by rfl)
    (hline : (apos.endLine == cpos.line) = true := by rfl) (hst : starEach (e :: es) C.X.env = (false, eval e C.X.env) :: starEach es C.X.env := by rfl) (hplain : (backTo cpos (starEach es C.X.env)).any (·.1) = false := by rfl) :
    ME C (.Call (.Attribute o name apos) (e :: es) [] cpos) (eMethT g mo ml) := by
  obtain ⟨t, p, s⟩ := ho
  obtain ⟨tl, pl, sl⟩ := ha
  refine ⟨_, pe_kt slot hty hm p pl hbase hfew hline hst hplain, ⟨fun env h σ H ι Q R V p => ?_⟩⟩
  refine s.then R V p fun d h1 ι1 H1 v x1 R1 V1 r1 p1 => ?_
  by_cases hk : isKt d = true
  · rw [if_pos hk] at p1
    cases d with
    | kt es =>
      obtain ⟨a, vs, rfl, ha, _⟩ := RD.kt.mp r1
      refine ⟨⟨a, vs, rfl, ha⟩, ?_⟩
      refine sl.then R1 V1 p1 fun ds h2 ι2 H2 vs x2 R2 V2 r2 p2 => ?_
      exact hs ι2 h2 H2 σ _ vs _ ds Q R2 (r1.mono (x2.grow R1)) r2 p2
    | _ => cases hk
  · rw [if_neg hk] at p1; exact p1.elim
end
end Rf

set_option maxHeartbeats 1000000
/-! a dict locked while its values are walked: [.. for row in d.values()] -/
namespace Rf
open PySem PySem.Spec PyProof.Rows L2
open Classical in
noncomputable def liveD (r : Nat) (kvs : List (Key × D)) (od : Obj) (ws : List (Key × V)) : AIt := ⟨kvs.length, fun i h => if h[r]? = some (.lk kvs od ws) then some ((kvs[i]?).map (·.2)) else none⟩
noncomputable def iDVals (m : EM) : IM := fun e h => match m e h with
  | .ok (.ref r) h1 => (match h1[r]? with
    | some (.lk kvs od ws) => .ok (liveD r kvs od ws) h1
    | _ => .stuck)
  | .ok _ _ => .stuck
  | .exc c fs h1 => .exc c fs h1
  | .stuck => .stuck
theorem itr_liveD {K : PySem.W.Frag} {ι : Nat → Addr} {n r : Nat} {H : Hp} {kvs : List (Key × D)} {od : Obj} {ws : List (Key × V)} (hr : r < n) : ItR K (Itd (ι r) od ws) (liveD r kvs od ws) ι n H := by
  intro i ι' h' H' x R
  have eι := x.ag r hr
  unfold liveD
  dsimp only
  by_cases q : h'[r]? = some (.lk kvs od ws)
  · rw [if_pos q]
    obtain ⟨e1, k, rr⟩ := R.ob r _ q
    rw [eι] at e1
    have ln : kvs.length = ws.length := by
      have := congrArg List.length k
      rwa [List.length_map, List.length_map] at this
    refine ⟨fun e => ⟨e1, ?_⟩, fun d e => ?_⟩
    · have e := Option.some.inj e
      rw [Option.map_eq_none_iff] at e
      have := List.getElem?_eq_none_iff.mp e
      omega
    · have e := Option.some.inj e
      have hi : i < kvs.length := by
        cases qi : kvs[i]? with
        | none => rw [qi] at e; cases e
        | some z => exact (List.getElem?_eq_some_iff.mp qi).1
      refine ⟨⟨e1, by omega⟩, fun y H2 hy => ?_⟩
      obtain ⟨rfl, kk, hy⟩ := hy
      have e' : (kvs.map (·.2))[i]? = some d := by rw [List.getElem?_map]; exact e
      obtain ⟨v, ev, rv⟩ := rr.get e'
      rw [List.getElem?_map, hy] at ev
      have ev : y = v := Option.some.inj ev
      subst ev
      exact ⟨ι', .refl, R, rv⟩
  · rw [if_neg q]
    exact ⟨(fun z => nomatch z), (fun d z => nomatch z)⟩
section
variable {C : Ct} {tg e : Expr} {m : EM} {apos cpos : Pos}
theorem mi_dvals (ha : ME C e m) (hbase : attributeBase e "values" C.X.env (eval e C.X.env) = eval e C.X.env := by rfl) (hline : (apos.endLine == cpos.line) = true := by rfl) : MI C tg (.Call (.Attribute e "values" apos) [] [] cpos) (iDVals m) := by
  obtain ⟨t, pa, sa⟩ := ha
  refine ⟨_, pi_values pa hbase hline, ⟨fun env h σ H ι Q R V p => ?_⟩⟩
  refine sa.run env h σ H ι _ R V ?_
  unfold iDVals at p
  cases hm : m env h with
  | exc c fs h1 => rw [hm] at p; exact p
  | stuck => rw [hm] at p; exact p
  | ok d h1 =>
    rw [hm] at p
    split at p
    · rename_i r h1' e
      injection e with e1 e2
      subst e1 e2
      split at p
      · rename_i kvs od ws e2
        refine fun ι' H' v x R' r' => ?_
        obtain ⟨hr, rfl⟩ := RD.ref.mp r'
        obtain ⟨q1, q2, q3⟩ := R'.ob r _ e2
        exact ⟨ι' r, od, ws, rfl, q1, p.here x R' (itr_liveD hr)⟩
      · exact p.elim
    · exact p.elim
    · rename_i e; cases e
    · rename_i e; cases e
open Classical in
noncomputable def eLockV (i : Nat) (m : EM) : EM := fun env h => match env[i]? with
  | some (some (.ref r)) => (match h[r]? with
    | some (.dK kvs) => if hx : ∃ p : D × AH, r < p.2.length ∧ ∀ od ws, m env (h.set r (.lk kvs od ws)) = .ok p.1 (p.2.set r (.lk kvs od ws)) then .ok hx.choose.1 (hx.choose.2.set r (.dK kvs)) else .stuck
    | _ => .stuck)
  | _ => .stuck
theorem eLockV_eq {i r : Nat} {env : AE} {h h1 : AH} {kvs : List (Key × D)} {d : D} (he : env[i]? = some (some (.ref r))) (hr : h[r]? = some (.dK kvs)) (hl : r < h1.length) (hm : ∀ od ws, m env (h.set r (.lk kvs od ws)) = .ok d (h1.set r (.lk kvs od ws))) :
    eLockV i m env h = .ok d (h1.set r (.dK kvs)) := by
  have hx : ∃ p : D × AH, r < p.2.length ∧ ∀ od ws, m env (h.set r (.lk kvs od ws)) = .ok p.1 (p.2.set r (.lk kvs od ws)) := ⟨(d, h1), hl, hm⟩
  unfold eLockV
  rw [he]
  dsimp only
  rw [hr]
  dsimp only
  rw [dif_pos hx]
  have s := hx.choose_spec.2 { cls := .none, data := .fields #[] } []
  rw [hm] at s
  injection s with s1 s2
  have s3 := congrArg (fun l : AH => l.set r (.dK kvs)) s2
  simp only [List.set_set] at s3
  rw [← s1, ← s3]
theorem me_lock {i : Nat} (ha : ME C e m) : ME C e (eLockV i m) := by
  obtain ⟨t, p, s⟩ := ha
  refine ⟨_, pe_lock p, ⟨fun env h σ H ι Q R V post => ?_⟩⟩
  unfold eLockV at post
  split at post
  · rename_i r er
    split at post
    · rename_i kvs hr
      split at post
      · rename_i hx
        have hrl := (List.getElem?_eq_some_iff.mp hr).1
        obtain ⟨ws, e1, k, rr⟩ := R.ob r _ hr
        refine ⟨ι r, .dK ws, e1, trivial, fun od => ?_⟩
        obtain ⟨pl, ps⟩ := hx.choose_spec
        generalize hx.choose = pp at *
        have x0 : Ext ι h.length H ι h.length (upd H (ι r) (.frz od (.dK ws))) := Ext.put R hrl
        have R1 : Rel C.X.K ι (h.set r (.lk kvs od ws)) (upd H (ι r) (.frz od (.dK ws))) := R.put hrl fun xx => ⟨upd_same, k, rr.mono (xx.grow R)⟩
        have V1 : RV C ι (h.set r (.lk kvs od ws)).length (upd H (ι r) (.frz od (.dK ws))) env σ := by rw [List.length_set]; exact RV.ext R x0 V
        refine s.run env _ σ _ ι _ R1 V1 ?_
        rw [ps od ws]
        refine fun ι' H' v x R' rv => ?_
        rw [List.length_set] at x
        have gr : (pp.2.set r (.lk kvs od ws))[r]? = some (.lk kvs od ws) := List.getElem?_set_self pl
        obtain ⟨q1, q2, q3⟩ := R'.ob r _ gr
        have eι := x.ag r hrl
        rw [eι] at q1
        refine ⟨q1, ?_⟩
        have hrl' : r < (pp.2.set r (.lk kvs od ws)).length := by rw [List.length_set]; exact pl
        have x2 : Ext ι' (pp.2.set r (.lk kvs od ws)).length H' ι' (pp.2.set r (.lk kvs od ws)).length (upd H' (ι' r) (.dK ws)) := Ext.put R' hrl'
        have R2 : Rel C.X.K ι' ((pp.2.set r (.lk kvs od ws)).set r (.dK kvs)) (upd H' (ι' r) (.dK ws)) := R'.put hrl' fun xx => ⟨ws, upd_same, q2, q3.mono (xx.grow R')⟩
        rw [List.set_set] at R2
        rw [← eι]
        refine post ι' _ v ?_ R2 ?_
        · have := x0.trans (x.trans x2)
          simpa using this
        · have := rv.mono (x2.grow R')
          simpa using this
      · exact post.elim
    · exact post.elim
  · exact post.elim
end
end Rf

set_option maxHeartbeats 2000000
/-! defs that are called while no repr is under way (guards known), and raise nothing -/
namespace Rf
open PySem PySem.Spec PyProof.Rows L2
structure RoomG (k : Nat) (A : Around) : Prop where
  room : Room k A
  gd : A.guards = some []
theorem RoomG.mono {j k : Nat} {A : Around} (r : RoomG k A) (h : j ≤ k) : RoomG j A := ⟨r.room.mono h, r.gd⟩
theorem RoomG.deeper {k : Nat} {A : Around} (r : RoomG (k + 1) A) (env : Env) : RoomG k (A.deeper env) := ⟨r.room.deeper env, r.gd⟩
structure FnG (P : Program) (w : World) (K : PySem.W.Frag) (mg : Str → Option Value) (base : Heap) (k : Nat) (f : Addr) (fd : FuncData) (ps : List Str) (sp : Sp) : Prop where
  ln : ∀ vs H Q E, sp vs H Q E → vs.length = ps.length
  go : ∀ (A : Around) (outer : List Env) (s : Shared) (H : Hp) (args : Args) (us : List Value) (vs : List V) (Q : VK) (E : XK), RoomG k A → Env0 P w K mg base A outer s H → BindsTo s fd args (ps.zip us) → Vals vs us → sp vs H Q E → codeAny (model P w) A (.call (.ref f) args) (CR (L2.CX P w) outer P w H s Q (fun _ _ _ => False)) s
theorem FnG.mono {P : Program} {w : World} {K : PySem.W.Frag} {mg : Str → Option Value} {base : Heap} {j k : Nat} {f : Addr} {fd : FuncData} {ps : List Str} {sp : Sp} (F : FnG P w K mg base j f fd ps sp) (h : j ≤ k) : FnG P w K mg base k f fd ps sp :=
  ⟨F.ln, fun A outer s H args us vs Q E hr => F.go A outer s H args us vs Q E (hr.mono h)⟩
theorem units65G {k : Nat} {A : Around} (hr : RoomG k A) : A.units + 65 < cLine := by have := hr.room.un; omega
theorem FnG.imp {P : Program} {w : World} {K : PySem.W.Frag} {mg : Str → Option Value} {base : Heap} {k : Nat} {f : Addr} {fd : FuncData} {ps : List Str} {sp sp' : Sp} (F : FnG P w K mg base k f fd ps sp) (h : ∀ vs H Q E, sp' vs H Q E → sp vs H Q E) : FnG P w K mg base k f fd ps sp' :=
  ⟨fun vs H Q E q => F.ln vs H Q E (h vs H Q E q), fun A outer s H args us vs Q E hr e b r q => F.go A outer s H args us vs Q E hr e b r (h vs H Q E q)⟩
theorem fn_guard {P : Program} {w : World} {K : PySem.W.Frag} {mg : Str → Option Value} {base : Heap} {x qual : Str} {st : Stmt} {f : Addr} {fd : FuncData} {N ps : List Str} {k : Nat} {sp : Sp} (F : Fun K x qual st f fd) (S : FnScope N ps (defScope st)) (ln : ∀ vs H Q E, sp vs H Q E → vs.length = ps.length)
    (hb : ∀ (cdv : Value) (A : Around) (outer : List Env) (s : Shared) (H : Hp) (vs : List V) (Q : VK) (E : XK), RoomG k (A.deeper (envOfC qual (defScope st) s.heap.objs.size f cdv)) → sp vs H Q E → ∃ t, PSs (cxOf (L2.CX P w) P w K mg base N qual (defScope st) f cdv A outer s H (fun _ _ _ => False)) (defBody st) t ∧ t { nx := fun _ H' => Q .non H', rt := Q } (start N vs) H) :
    FnG P w K mg base (k + 1) f fd ps sp := by
  obtain ⟨oc, od, kV, doc, pm, an, cdv, ct, osl, rfl, lk, hcd⟩ := F.ex
  refine ⟨ln, fun A outer s H args us vs Q E hr e0 hbd r hsp => ?_⟩
  have up : ∀ b o, base.get? b = some o → s.heap.get? b = some o := fun b o e => (e0.bs b o e).1
  have KX : K.In s.heap := e0.mod.kin.keeps up
  have lim : s.heap.NoLimit := e0.mod.nolimit.keeps up
  have kinds : ∀ y ∈ ps.zip us, (defScope st).names.lookup y.1 = some .local ∨ ((defScope st).names.lookup y.1 = some .cell ∧ ((cellsFrom (s.heap.objs.size + 1) (defScope st).names []).lookup y.1).isSome = true) := by
    rintro ⟨n, v⟩ hy
    exact (S.par n (List.of_mem_zip hy).1).imp id fun q => ⟨q, PySem.W.cellsFrom_some _ _ _ (.inl q)⟩
  refine codeAny_call_function hr.room.depth (KX _ _ lk) rfl S.co S.gen rfl (PySem.W.codeRec_of KX hcd)
    (hbd _ _ _ _ (wpAny_newFunctionEnv_cells S.kind kinds fun env he s1 x => ?_))
  subst he
  refine ⟨lim.keeps x.toInCall.keep,
    codeAny_func ?_⟩
  obtain ⟨t, ht, hq⟩ := hb cdv A outer s H vs Q E (hr.deeper _) hsp
  have I : Inv (cxOf (L2.CX P w) P w K mg base N qual (defScope st) f cdv A outer s H (fun _ _ _ => False)) [] (start N vs) H s1 := inv_start S hr.room.hd e0 (ln _ _ _ _ hsp) r x
  refine wpAny_mono (ht.run [] s1 (start N vs) H _ I hq) (fun fl s' hs => ?_)
    fun e s' hs => hs
  cases fl with
  | ret u => exact let ⟨v, σ', H', J, rv, q⟩ := hs; ⟨v, H', J.os, J.bare, J.base, J.hok, rv, q⟩
  | next => exact let ⟨σ', H', J, q⟩ := hs; ⟨V.non, H', J.os, J.bare, J.base, J.hok, rfl, q⟩
  | brk => exact let ⟨_, _, _, q⟩ := hs; (show False from q).elim
  | cont => exact let ⟨_, _, _, q⟩ := hs; (show False from q).elim
theorem fn_okG {P : Program} {w : World} {K : PySem.W.Frag} {mg : Str → Option Value} {base : Heap} {x qual : Str} {st : Stmt} {f : Addr} {fd : FuncData} {N ps : List Str} {k n pl : Nat} {m : SM} (F : Fun K x qual st f fd) (S : FnScope N ps (defScope st)) (hN : N.length = n) (hp : ps.length = pl)
    (hm : ∀ cdv A outer s H, RoomG k (A.deeper (envOfC qual (defScope st) s.heap.objs.size f cdv)) → MB ⟨cxOf (L2.CX P w) P w K mg base N qual (defScope st) f cdv A outer s H (fun _ _ _ => False), fun _ _ _ _ => False, none⟩ (defBody st) m) :
    FnG P w K mg base (k + 1) f fd ps (spF K mg pl (noX (fsem n m))) := by
  subst hN hp
  refine fn_guard F S (fun vs H Q E h => h.1) (fun cdv A outer s H vs Q E hr h => ?_)
  obtain ⟨hl, ι, h, ds, R, r, p⟩ := h
  obtain ⟨t, pt, s1⟩ := hm cdv A outer s H hr
  refine ⟨t, pt, ?_⟩
  refine s1.run _ h _ H ι _ R ⟨start_re N.length r, trivial⟩ ?_
  unfold noX fsem at p
  generalize m (ds.map some ++ List.replicate (N.length - ds.length) none) h = o at p
  have key : ∀ (d : D) (h' : AH), PostF K mg ι h.length H (quiet (gc h (.ok d h'))) Q E → PostF K mg ι h.length H (.ok d h') Q E := fun d h' p => by
    refine PostF.gc R ?_
    have e : quiet (gc h (.ok d h')) = gc h (.ok d h') := by
      unfold gc
      dsimp only
      repeat' split
      all_goals rfl
    rwa [e] at p
  cases o with
  | nx e h1 => exact fun ι' H' σ' x R' V' => key _ _ p ι' H' .non x R' (RD.non.mpr rfl)
  | rt d h1 => exact fun ι' H' v x R' V' => key _ _ p ι' H' v x R' V'
  | exc c fs e h1 => exact (show False from p).elim
  | bk e h1 => exact (show False from p).elim
  | ct e h1 => exact (show False from p).elim
  | stuck => exact (show False from p).elim
theorem run_guard {X : Cx} {k : Nat} {f : Addr} {fd : FuncData} {ps : List Str} {sp : Sp} {pins : List (Addr × Obj)} {σ : List (Option V)} {H : Hp} {s : Shared} {Q : VK} {E : XK} {us : List Value} {vs : List V} (F : FnG X.prog X.w X.K X.mg X.base k f fd ps sp) (hr : RoomG k X.A) (hb : Binds X.K fd ps [])
    (I : Inv X pins σ H s) (r : Vals vs us) (h : sp vs H Q E) : wpAny (model X.prog X.w) X.A (call (.ref f) us) (EP X pins σ Q) X.xe s := by
  have hl : us.length = ps.length := by rw [← r.length]; exact F.ln _ _ _ _ h
  have b := hb s us I.kIn (by simpa using hl)
  rw [List.append_nil] at b
  refine wpAny_call (codeAny_mono (F.go X.A X.stack s H ⟨us, []⟩ us vs Q E hr I.env0 b r h) ?_)
  intro o s' hq
  match o, hq with
  | .ok (.ret u), hq => exact I.after hq
  | .ok .next, hq => exact (show False from hq).elim
  | .ok .brk, hq => exact (show False from hq).elim
  | .ok .cont, hq => exact (show False from hq).elim
  | .error e, hq =>
    obtain ⟨_, _, _, _, _, _, _, _, _, _, _, _, z⟩ := hq
    exact z.elim
theorem me_callG {C : Ct} {k pl : Nat} {f : Addr} {fd : FuncData} {ps : List Str} {F : List D → AH → ER} {x : Str} {p pos : Pos} {e : Expr} {es : List Expr} {ml : LM} (F0 : FnG C.X.prog C.X.w C.X.K C.X.mg C.X.base k f fd ps (spF C.X.K C.X.mg pl (noX F))) (hr : RoomG k C.X.A) (hm : C.X.mg x = some (.ref f)) (hk : PySem.W.keepIn C.X.K (.ref f) = true) (hb : Binds C.X.K fd ps [])
    (ha : MA C (e :: es) ml) (hlen : (e :: es).length = pl := by rfl) (hg : Gl C.X x := by rfl) (hdb : (x == ("__debug__" : Str)) = false := by decide) (he : starEach (e :: es) C.X.env = (false, eval e C.X.env) :: starEach es C.X.env := by rfl) (hpl : (backTo pos (starEach es C.X.env)).any (·.1) = false := by rfl) :
    ME C (.Call (.Name x p) (e :: es) [] pos) (eCall (argn pl (noX F)) ml) := by
  obtain ⟨t, pa, s⟩ := ha
  refine ⟨fun σ H Q => t σ H fun vs H1 => spF C.X.K C.X.mg pl (noX F) vs H1 Q (fun _ _ _ => False), ⟨fun pins sh σ H Q I h => ?_⟩, ⟨fun env h σ H ι Q R V q => ?_⟩⟩
  · refine wpAny_Call_Name_kw (ld_glob I hg hm (PySem.W.callWith_K (h₀ := C.X.base) I.ok.mod.kin hk (thn (pa.run pos pins sh σ H _ I h) fun us s1 z => ?_) he hpl) hdb)
    obtain ⟨vs, H1, I1, r, q⟩ := z
    exact ⟨I1.kIn, run_guard F0 hr hb I1 r q⟩
  · refine s.run env h σ H ι _ R V ?_
    unfold eCall at q
    cases hml : ml env h with
    | ok ds h1 =>
      rw [hml] at q
      refine fun ι' H' vs x R' r => ?_
      have q2 : PostE C ι h.length H σ (if ds.length = pl then noX F ds h1 else .stuck) Q := q
      by_cases hd : ds.length = pl
      · rw [if_pos hd] at q2
        refine ⟨by rw [← r.length]; exact hd, ι', h1, ds, R', r, ?_⟩
        have q3 := PostE.shift q2 x
        cases hF : F ds h1 with
        | ok d h2 =>
          have e : noX F ds h1 = .ok d h2 := by rw [noX_, hF]; rfl
          rw [e] at q3 ⊢
          exact q3
        | exc c fs h2 =>
          have e : noX F ds h1 = .stuck := by rw [noX_, hF]; rfl
          rw [e] at q3
          exact (show False from q3).elim
        | stuck =>
          have e : noX F ds h1 = .stuck := by rw [noX_, hF]; rfl
          rw [e] at q3
          exact (show False from q3).elim
      · rw [if_neg hd] at q2; exact q2.elim
    | exc c fs h1 => rw [hml] at q; exact q
    | stuck => rw [hml] at q; exact q
end Rf

set_option maxHeartbeats 2000000
/-! repr of plain data, where no repr is under way -/
namespace Rf
open PySem PySem.Spec PyProof.Rows L2
section
variable {X : Cx}
def rRepr (K : PySem.W.Frag) : List V → Hp → VK → Prop := fun xs H Q => ∃ v d, xs = [v] ∧ Dp K H v d ∧ d.showable = true ∧ d.canLay0 = true ∧ d.depth ≤ 20 ∧ d.shown.length ≤ sizeLine ∧ Q (.str d.shown) H
theorem call_reprG (hg : X.A.guards = some []) (hu : X.A.units + 65 < cLine) : CallR X (.builtin "repr") (rRepr X.K) := by
  intro pins s σ H xs us Q I r h
  obtain ⟨v, d, rfl, hd, sh, cl, dp, sz, q⟩ := h
  obtain ⟨u, rfl, ru⟩ := vals1 r
  obtain ⟨as, rd⟩ := Dp.reads I d v u hd ru
  have road : ∀ a, u = .ref a → wpAny (model X.prog X.w) X.A (call (.builtin "repr") [u]) (EP X pins σ Q) X.xe s := fun a e => by
    subst e
    refine repr_of_reads' rd sh (fun hx => by rw [PyData.hasDict_of_canLay d cl] at hx; cases hx) hg (by omega) (fun _ _ e => e) (fun h' u tk hk => ?_) sz
    exact ⟨.str _, H, I.kept hk, ⟨_, rfl⟩, q⟩
  cases hd with
  | non =>
    cases ru
    exact PySem.P.repr_of_none ⟨.str _, H, I.tok _, ⟨_, rfl⟩, by simpa [PyData.shown] using q⟩
  | bl b =>
    cases ru
    exact PySem.P.repr_of_bool ⟨.str _, H, I.tok _, ⟨_, rfl⟩, by simpa [PyData.shown] using q⟩
  | int i =>
    obtain ⟨t, rfl⟩ := ru
    have sh' : i.natAbs.log2 < 1920 := by simpa [PyData.showable] using sh
    exact PySem.P.repr_of_int sh' ⟨.str _, H, I.tok _, ⟨_, rfl⟩, by simpa [PyData.shown] using q⟩
  | str x =>
    obtain ⟨t, rfl⟩ := ru
    exact PySem.P.repr_of_str ⟨.str _, H, I.tok _, ⟨_, rfl⟩, by simpa [PyData.shown] using q⟩ (by simpa [PyData.shown] using sz)
  | lst hs ha => cases ru; exact road _ rfl
  | tup hs ha => cases ru; exact road _ rfl
end
noncomputable def cRepr (ds : List D) (h : AH) : ER := match ds with
  | [d] => (match d.toP h 20 with
    | some p => if p.showable = true then (if Fits p.shown.length then .ok (.str p.shown) h else .stuck) else .stuck
    | none => .stuck)
  | _ => .stuck
theorem cs_repr {C : Ct} : CallS C (rRepr C.X.K) cRepr := by
  intro ι h H σ xs ds Q R r p
  unfold cRepr at p
  split at p
  · rename_i d
    obtain ⟨v, rfl, q1⟩ := r.one
    split at p
    · rename_i pd e
      split at p
      · rename_i sh
        split at p
        · rename_i fz
          obtain ⟨a1, a2, a3⟩ := toP_dp R _ _ _ _ q1 e
          exact ⟨v, pd, rfl, a1, sh, a2, a3, fz, p.here R (RD.str.mpr rfl)⟩
        · exact p.elim
      · exact p.elim
    · exact p.elim
  · exact p.elim
end Rf

set_option maxHeartbeats 2000000
/-! the top: a law whose promise rests on known guards -/
namespace Rf
open PySem PySem.Spec PyProof.Rows L2
/-- the ground on which the law is called: the script is a, all else stands in base -/
structure Ground (P : Program) (w : World) (K : PySem.W.Frag) (mg : Str → Option Value) (s : Shared) (a : Addr) (ns : List Int) where
  H : Hp
  only : Only H
  sq : SqL K H a (ns.map V.int)
  hok : HOk P w H s.heap
  base : Heap
  kin : K.In base
  nsb : base.Ns mainGlobals mg
  env : Env0 P w K mg base callerA [] s H
theorem ground_done {P : Program} {w : World} {K : PySem.W.Frag} {mg : Str → Option Value} {k : Nat} {fa a : Addr} {fd : FuncData} {x : Str} {sp : Sp} {s : Shared} {ns : List Int} (G : Ground P w K mg s a ns) (hr : Room k callerA)
    (F : ∀ base : Heap, K.In base → base.Ns mainGlobals mg → FnG P w K mg base k fa fd [x] sp) (hbind : ∀ (s : Shared) (u : Value), BindsTo s fd ⟨[u], []⟩ [(x, u)])
    (hsp : ∀ H : Hp, Only H → SqL K H a (ns.map V.int) → sp [.ref a] H (fun v _ => v = .bl true) fun _ _ _ => False) :
    codeAny (model P w) callerA (.call (.ref fa) ⟨[.ref a], []⟩) (fun r s' => r = .ok (.ret (.bool true)) ∧ OldK s.heap s'.heap ∧ s'.os = s.os ∧ AllBare s'.gens) s := by
  refine codeAny_mono ((F G.base G.kin G.nsb).go callerA [] s G.H ⟨[.ref a], []⟩ [.ref a] [.ref a] _ _ ⟨hr, rfl⟩ G.env (hbind s (.ref a)) (.cons rfl .nil) (hsp G.H G.only G.sq)) fun r s' h => ?_
  cases r with
  | error e =>
    obtain ⟨_, _, _, _, _, _, _, _, _, _, _, _, z⟩ := h
    exact z.elim
  | ok fl =>
    cases fl with
    | next => exact (show False from h).elim
    | brk => exact (show False from h).elim
    | cont => exact (show False from h).elim
    | ret u =>
      obtain ⟨v, H', os, bare, un, hok', rv, q⟩ := h
      have q : v = .bl true := q
      subst q
      have eu : u = Value.bool true := rv
      subst eu
      refine ⟨rfl, OldK.of_keep fun b o e => ?_, os, bare⟩
      rcases G.only b with z | ⟨ob, xs, z⟩
      · exact un.keep b o e z (fun z => by cases z) (by simp)
      · have z2 := un.frzs b ob _ z
        have e1 := (G.hok b _ z).1
        have e2 := (hok' b _ z2).1
        rw [e] at e1
        cases e1
        exact e2
section
variable {P : Program} {w : World} {K : PySem.W.Frag} {mg mb : Str → Option Value} {s : Shared} {a : Addr} {vs : List Value} {ns : List Int}
theorem ground_by (KX : K.In s.heap) (hns : s.heap.Ns mainGlobals mg) (hb : s.heap.Ns builtinsNs mb) (hbb : ∀ x : Str, x ≠ "__name__" → mb x = bootBuiltins x) (hlim : s.heap.NoLimit) (hg : s.gens = #[])
    (ha : s.heap.get? a = some { cls := .type "list", data := .seq vs.toArray }) {H : Hp} (hO : Only H) (hS : SqL K H a (ns.map V.int)) (hok : HOk P w H s.heap) (lone : ∀ b, b ≠ a → H b = none) (own : H a ≠ none → K.lookup a = none) : Nonempty (Ground P w K mg s a ns) := by
  have get : ∀ {b : Addr} {o : Obj}, s.heap.get? b = some o → H b = none → (hidT s.heap H).get? b = some o := fun e n => hidT_get e n
  have names : ∀ {b : Addr} {m : Str → Option Value}, s.heap.Ns b m → (hidT s.heap H).Ns b m := by
    rintro b m ⟨o, es, ep, e, dt, rest⟩
    refine ⟨o, es, ep, get e (lone b ?_), dt, rest⟩
    rintro rfl
    rw [ha] at e
    cases e
    cases dt
  have kin : K.In (hidT s.heap H) := fun b o e => by
    refine get (KX b o e) ?_
    by_cases q : b = a
    · subst q
      cases z : H b with
      | none => rfl
      | some u => rw [own (by rw [z]; exact fun z => by cases z)] at e; cases e
    · exact lone b q
  obtain ⟨mc, l1, l2⟩ := hlim
  exact ⟨⟨H, hO, hS, hok, hidT s.heap H, kin, names hns, ⟨rfl, ⟨kin, names hns, ⟨mb, names hb, hbb⟩, mc, names l1, l2⟩, fun b o e => of_hidT e, Nat.le_of_eq (hidT_size _ _), trivial, fun b hb => (List.not_mem_nil hb).elim, hok, .of_eq hg⟩⟩⟩
theorem ground_of (KX : K.In s.heap) (hns : s.heap.Ns mainGlobals mg) (hb : s.heap.Ns builtinsNs mb) (hbb : ∀ x : Str, x ≠ "__name__" → mb x = bootBuiltins x) (hlim : s.heap.NoLimit) (hg : s.gens = #[])
    (ha : s.heap.get? a = some { cls := .type "list", data := .seq vs.toArray }) (hi : IntsAre vs ns) (hl : ns.length ≤ sizeLine) : Nonempty (Ground P w K mg s a ns) := by
  have rv := vals_ints hi
  have lv := hi.length
  cases hk : K.lookup a with
  | some o =>
    have e := KX a o hk
    rw [ha] at e
    cases e
    refine ground_by KX hns hb hbb hlim hg ha (H := fun _ => none) (fun _ => .inl rfl) (.inr ⟨_, vs.toArray, _, hk, rfl, rfl, rfl, ?_, by simpa using rv⟩) (fun b u z => by cases (show (none : Option HO) = some u from z)) (fun _ _ => rfl) fun z => absurd rfl z
    rw [List.size_toArray, lv]; exact hl
  | none =>
    have at_ : ∀ u, (if a = a then some (HO.frz { cls := .type "list", data := .seq vs.toArray } (.lst (ns.map V.int))) else none) = some u → u = .frz { cls := .type "list", data := .seq vs.toArray } (.lst (ns.map V.int)) := fun u e => by
      rw [if_pos rfl] at e; exact (Option.some.inj e).symm
    refine ground_by KX hns hb hbb hlim hg ha (H := fun b => if b = a then some (.frz { cls := .type "list", data := .seq vs.toArray } (.lst (ns.map V.int))) else none) (fun b => ?_) (.inl (.inr ⟨_, if_pos rfl⟩)) (fun b u z => ?_) (fun b q => if_neg q) fun _ => hk
    · by_cases q : b = a
      · exact .inr ⟨_, _, if_pos q⟩
      · exact .inl (if_neg q)
    · by_cases q : b = a
      · subst q
        rw [at_ u z]
        exact ⟨ha, by rw [List.length_map]; exact hl, vs, _, rv, ha⟩
      · have z' : (none : Option HO) = some u := (if_neg q).symm.trans z
        cases z'
end
theorem walk_ofG {l : PySem.W.OpenLaw} {n k : Nat} {q : Program} {loose : List Str} {XP : (Str → Option Value) → Heap → Prop} {YP : World → Heap → Prop} {d : DefRec} {K : Params → PySem.W.Frag} {sp : World → Sp} {x : Str}
    (hn : l.most = some n) (hn2 : n ≤ sizeLine) (hdf : d.params.defaults = []) (hr : Room k callerA)
    (hY : ∀ (w : World) (h : Heap), YP w h → (K w.params).In h)
    (F : ∀ (w : World) (mg : Str → Option Value) (fa : Addr) (h : Heap), (K w.params).In h → h.Ns mainGlobals mg → mg d.name = some (.ref fa) →
      ∃ fd : FuncData, (∀ (s : Shared) (u : Value), BindsTo s fd ⟨[u], []⟩ [(x, u)]) ∧
        ∀ base : Heap, (K w.params).In base → base.Ns mainGlobals mg → FnG l.prog w (K w.params) mg base k fa fd [x] (sp w))
    (hsp : ∀ (w : World) (H : Hp) (a : Addr) (ns : List Int), ns.length ≤ n → Only H → SqL (K w.params) H a (ns.map V.int) → sp w [.ref a] H (fun v _ => v = .bl true) fun _ _ _ => False) :
    PySem.W.WalkO q loose XP YP l.row.toRowW d [] (fun f vs => PySem.call f vs) := by
  refine Att.attach_call hn hdf fun w s₀ s₁ mg mb fa o pm cd doc a vs ns G Y ho hd hcd hmg hobj hints hlen hg => ?_
  have KX := hY w _ Y
  obtain ⟨fd, hb, hF⟩ := F w mg fa _ KX G.T.g hmg
  obtain ⟨gr⟩ := ground_of (P := l.prog) (w := w) KX G.T.g G.T.b G.T.builtins G.T.nolimit hg hobj hints (Nat.le_trans hlen hn2)
  exact ground_done gr hr hF hb fun H hO hS => hsp w H a ns hlen hO hS
theorem noX_true {F : List D → AH → ER} {ds : List D} {h : AH} (e : ∃ h', F ds h = .ok (.bl true) h') : ∃ h', noX F ds h = .ok (.bl true) h' := by
  obtain ⟨h', e⟩ := e
  exact ⟨h', by rw [noX_, e]; rfl⟩
end Rf

set_option maxHeartbeats 1000000
/-! min(t) of a tuple of ints, besides min(xs) of a list -/
namespace Rf
open PySem PySem.Spec PyProof.Rows L2
section
variable {X : Cx}
theorem minOf_spec : ∀ (xs : List Int) (x : Int), W.minOf x xs ∈ x :: xs ∧ ∀ y ∈ x :: xs, W.minOf x xs ≤ y
  | [], x => ⟨by simp [W.minOf], fun y hy => by simp at hy; subst hy; simp [W.minOf]⟩
  | a :: xs, x => by
    have e : W.minOf x (a :: xs) = W.minOf (if W.DatumOrd.lt a x = true then a else x) xs := rfl
    have l : (W.DatumOrd.lt a x = true) = (a < x) := by
      show (decide (a < x) = true) = (a < x)
      simp
    rw [e]
    by_cases c : a < x
    · rw [if_pos (by rw [l]; exact c)]
      obtain ⟨h1, h2⟩ := minOf_spec xs a
      refine ⟨List.mem_cons_of_mem _ h1, fun y hy => ?_⟩
      rcases List.mem_cons.mp hy with rfl | hy
      · have := h2 a (by simp); omega
      · exact h2 y hy
    · rw [if_neg (by rw [l]; exact c)]
      obtain ⟨h1, h2⟩ := minOf_spec xs x
      refine ⟨?_, fun y hy => ?_⟩
      · rcases List.mem_cons.mp h1 with h | h
        · rw [h]; simp
        · exact List.mem_cons_of_mem _ (List.mem_cons_of_mem _ h)
      · rcases List.mem_cons.mp hy with rfl | hy
        · exact h2 _ (by simp)
        · rcases List.mem_cons.mp hy with rfl | hy
          · have := h2 x (by simp); omega
          · exact h2 y (by simp [hy])
theorem holdAll_ints {h : Heap} {us : List Value} {ns : List Int} (r : IntsAre us ns) : W.HoldAll h us ns := by
  induction r with
  | nil => exact ⟨[], .nil⟩
  | cons n t r ih =>
    obtain ⟨as, q⟩ := ih
    exact ⟨[] ++ as, .cons (.int n t) q⟩
def rMinT (K : PySem.W.Frag) : List V → Hp → VK → Prop := fun vs H Q => ∃ (a : Addr) (ns : List Int), vs = [V.ref a] ∧ SqT K H a (ns.map V.int) ∧ 0 < ns.length ∧ ∀ m, m ∈ ns → (∀ y, y ∈ ns → m ≤ y) → Q (.int m) H
theorem cr_minT (hc : X.calm = true) (hu : X.A.units + 65 < cLine) : CallR X (.builtin "min") (rMinT X.K) := by
  intro pins s σ H vs us Q I r h
  obtain ⟨a, ns, rfl, hs, hne, q⟩ := h
  obtain ⟨its, rv, hl, _⟩ := I.tuple hs
  rw [Vals.ref1 r]
  cases ns with
  | nil => exact absurd hne (by simp)
  | cons x xs =>
    have ho := holdAll_ints (h := s.heap) rv.ints
    refine W.min_tuple_datum (α := Int) (I.ok.hd hc) hl ho (by show X.A.units + 1 + 0 < cLine; omega) fun i v h' tk hv hold hk => ?_
    obtain ⟨as, rd⟩ := hold
    cases rd
    obtain ⟨h1, h2⟩ := minOf_spec xs x
    exact ⟨.int _, H, I.kept hk, ⟨_, rfl⟩, q _ h1 h2⟩
def rMinA (K : PySem.W.Frag) : List V → Hp → VK → Prop := fun vs H Q => rMin K vs H Q ∨ rMinT K vs H Q
theorem cr_minA (hc : X.calm = true) (hu : X.A.units + 65 < cLine) : CallR X (.builtin "min") (rMinA X.K) := by
  intro pins s σ H vs us Q I r h
  rcases h with h | h
  · exact cr_min hc pins s σ H vs us Q I r h
  · exact cr_minT hc hu pins s σ H vs us Q I r h
end
noncomputable def cMinA (ds : List D) (h : AH) : ER := match ds with
  | [.tup es] => (match intsOf es with
    | some ns => if 0 < ns.length then .ok (.int (minI ns)) h else .stuck
    | none => .stuck)
  | ds => cMinL ds h
theorem cs_minA {C : Ct} : CallS C (rMinA C.X.K) cMinA := by
  intro ι h H σ xs ds Q R r p
  unfold cMinA at p
  split at p
  · rename_i es
    obtain ⟨v, rfl, q1⟩ := r.one
    split at p
    · rename_i ns e2
      split at p
      · rename_i hl
        obtain ⟨a, vs, rfl, s, rr⟩ := RD.tup.mp q1
        rw [intsOf_eq e2] at rr
        rw [rr.ints] at s
        refine .inr ⟨a, ns, rfl, s, hl, fun m hm hy => ?_⟩
        have : m = minI ns := Int.le_antisymm (hy _ (minI_mem hl)) (minI_le hm)
        rw [this]
        exact p.here R (RD.int.mpr rfl)
      · exact p.elim
    · exact p.elim
  · exact .inl (cs_minL ι h H σ xs _ Q R r p)
@[simp] theorem cMinA_ref (r : Nat) (h : AH) : cMinA [.ref r] h = cMinL [.ref r] h := rfl
theorem cMinA_tup {ns : List Int} (l : 0 < ns.length) (h : AH) : cMinA [.tup (ns.map D.int)] h = .ok (.int (minI ns)) h := by
  unfold cMinA
  simp only [intsOf_map]
  rw [if_pos l]
end Rf

/-! printed by mk.py: the plain function of each def -/
namespace Law
open PySem Rf
noncomputable def m_is_whole : SM := (sRet (eAnd (eCall cIsi (lCons (eVar 0) (lCons (eC (.ty "int")) lNil))) (eNot (eCall cIsi (lCons (eVar 0) (lCons (eC (.ty "bool")) lNil))))))
noncomputable def c_is_whole : List D → AH → ER := fsem 1 m_is_whole
noncomputable def m_is_index : SM := (sRet (eAnd (eCall (argn 1 c_is_whole) (lCons (eVar 0) lNil)) (eChain oLe oLt (eC (.int 0)) (eVar 0) (eVar 1))))
noncomputable def c_is_index : List D → AH → ER := fsem 2 m_is_index
noncomputable def m_is_row : SM := (sRet (eAnd (eCall cIsi (lCons (eVar 0) (lCons (eC (.ty "tuple")) lNil))) (eOp oEq (eCall cLen (lCons (eVar 0) lNil)) (eVar 1))))
noncomputable def c_is_row : List D → AH → ER := fsem 2 m_is_row
noncomputable def lc_merged_1 : EM := (eLc (iVal (eVar 0)) (gVar 5) (eC (.bl true)) (eIf (eOp oEq (eVar 5) (eVar 4)) (eVar 3) (eVar 5)) [5])
noncomputable def m_merged : SM := (sSeq (sSet 3 (eCall cMin2 (lCons (eOp oIx (eVar 0) (eVar 1)) (lCons (eOp oIx (eVar 0) (eVar 2)) lNil))))
  (sSeq (sSet 4 (eCall cMax2 (lCons (eOp oIx (eVar 0) (eVar 1)) (lCons (eOp oIx (eVar 0) (eVar 2)) lNil))))
  (sSeq (sIf (eOp oEq (eVar 3) (eVar 4))
    (sRet (eVar 0))
    sPass)
  (sRet (eCall cTuple (lCons lc_merged_1 lNil))))))
noncomputable def c_merged : List D → AH → ER := fsem 6 m_merged
noncomputable def lb_is_labels_1 : SM := (sIf (eOr (eNot (eUn oTruth (eCall (argn 2 c_is_index) (lCons (eVar 3) (lCons (eOp oAdd (eVar 2) (eC (.int 1))) lNil))))) (eOp oNe (eOp oIx (eVar 0) (eVar 3)) (eVar 3)))
    (sRet (eC (.bl false)))
    sPass)
noncomputable def m_is_labels : SM := (sSeq (sIf (eNot (eUn oTruth (eCall (argn 2 c_is_row) (lCons (eVar 0) (lCons (eVar 1) lNil)))))
    (sRet (eC (.bl false)))
    sPass)
  (sSeq (sFor (iEnum2 (eVar 0)) (gTup 2 (gCons (gVar 2) (gCons (gVar 3) gNils))) lb_is_labels_1)
  (sRet (eC (.bl true)))))
noncomputable def c_is_labels : List D → AH → ER := fsem 4 m_is_labels
noncomputable def lb_classes_of_1 : SM := (sSeq (sIf (eOp oDNotIn (eVar 3) (eVar 1))
    (sAsg (eLst lNil) (fun d e h => onlyNx ((gSub putD (eVar 1) (eVar 3)) d e h)))
    sPass)
  (sExpr (eMeth "list" mAppend (eOp oDGet (eVar 1) (eVar 3)) (lCons (eVar 2) lNil))))
noncomputable def lc_classes_of_1 : EM := (eLc (iDVals (eVar 1)) (gVar 4) (eC (.bl true)) (eCall cTuple (lCons (eVar 4) lNil)) [4])
noncomputable def m_classes_of : SM := (sSeq (sSet 1 eDict)
  (sSeq (sFor (iEnum2 (eVar 0)) (gTup 2 (gCons (gVar 2) (gCons (gVar 3) gNils))) lb_classes_of_1)
  (sRet (eCall cTuple (lCons (eLockV 1 lc_classes_of_1) lNil)))))
noncomputable def c_classes_of : List D → AH → ER := fsem 5 m_classes_of
noncomputable def lb_labels_of_2 : SM := (sSeq (sIf (eOr (eNot (eUn oTruth (eCall (argn 2 c_is_index) (lCons (eVar 5) (lCons (eVar 1) lNil))))) (eUn oTruth (eOp oIx (eVar 3) (eVar 5))))
    (sRaise "InvalidLabels" ["value"] (lCons (eVar 0) lNil))
    sPass)
  (sAsg (eC (.bl true)) (fun d e h => onlyNx ((gSub putL (eVar 3) (eVar 5)) d e h))))
noncomputable def lb_labels_of_3 : SM := (sAsg (eVar 6) (fun d e h => onlyNx ((gSub putL (eVar 2) (eVar 5)) d e h)))
noncomputable def lb_labels_of_1 : SM := (sSeq (sIf (eOr (eNot (eUn oTruth (eCall cIsi (lCons (eVar 4) (lCons (eC (.ty "tuple")) lNil))))) (eOp oEq (eCall cLen (lCons (eVar 4) lNil)) (eC (.int 0))))
    (sRaise "InvalidLabels" ["value"] (lCons (eVar 0) lNil))
    sPass)
  (sSeq (sFor (iVal (eVar 4)) (gVar 5) lb_labels_of_2)
  (sSeq (sSet 6 (eCall cMinA (lCons (eVar 4) lNil)))
  (sFor (iVal (eVar 4)) (gVar 5) lb_labels_of_3))))
noncomputable def m_labels_of : SM := (sSeq (sIf (eNot (eUn oTruth (eCall cIsi (lCons (eVar 0) (lCons (eC (.ty "tuple")) lNil)))))
    (sRaise "InvalidLabels" ["value"] (lCons (eVar 0) lNil))
    sPass)
  (sSeq (sSet 2 (eRg1 false (eVar 1)))
  (sSeq (sSet 3 (eOp oMulA (eLst (lCons (eC (.bl false)) lNil)) (eVar 1)))
  (sSeq (sFor (iVal (eVar 0)) (gVar 4) lb_labels_of_1)
  (sRet (eCall cTuple (lCons (eVar 2) lNil)))))))
noncomputable def c_labels_of : List D → AH → ER := fsem 7 m_labels_of
noncomputable def lc_finer_1 : EM := (eLc (iEnum2 (eVar 0)) (gTup 2 (gCons (gVar 2) (gCons (gVar 3) gNils))) (eC (.bl true)) (eOp oEq (eOp oIx (eVar 1) (eVar 2)) (eOp oIx (eVar 1) (eVar 3))) [2, 3])
noncomputable def m_finer : SM := (sRet (eCall cAll (lCons lc_finer_1 lNil)))
noncomputable def c_finer : List D → AH → ER := fsem 4 m_finer
noncomputable def lb_meet_labels_1 : SM := (sSeq (sSet 6 (eTup (lCons (eVar 5) (lCons (eOp oIx (eVar 1) (eVar 4)) lNil))))
  (sSeq (sIf (eOp oTNotIn (eVar 6) (eVar 2))
    (sAsg (eVar 4) (fun d e h => onlyNx ((gSub putT (eVar 2) (eVar 6)) d e h)))
    sPass)
  (sExpr (eMeth "list" mAppend (eVar 3) (lCons (eOp oTGet (eVar 2) (eVar 6)) lNil)))))
noncomputable def m_meet_labels : SM := (sSeq (sSet 2 eDictT)
  (sSeq (sSet 3 (eLst lNil))
  (sSeq (sFor (iEnum2 (eVar 0)) (gTup 2 (gCons (gVar 4) (gCons (gVar 5) gNils))) lb_meet_labels_1)
  (sRet (eCall cTuple (lCons (eVar 3) lNil))))))
noncomputable def c_meet_labels : List D → AH → ER := fsem 7 m_meet_labels
noncomputable def lb_join_labels_1 : SM := (sSet 2 (eCall (argn 3 c_merged) (lCons (eVar 2) (lCons (eVar 3) (lCons (eVar 4) lNil)))))
noncomputable def m_join_labels : SM := (sSeq (sSet 2 (eVar 0))
  (sSeq (sFor (iEnum2 (eVar 1)) (gTup 2 (gCons (gVar 3) (gCons (gVar 4) gNils))) lb_join_labels_1)
  (sRet (eVar 2))))
noncomputable def c_join_labels : List D → AH → ER := fsem 5 m_join_labels
noncomputable def lc_broken_1 : EM := (eLc (iVal (eVar 4)) (gVar 8) (eC (.bl true)) (eOp oIx (eVar 0) (eVar 8)) [8])
noncomputable def lb_broken_3 : SM := (sIf (eAnd (eOp oEq (eOp oIx (eVar 0) (eVar 6)) (eOp oIx (eVar 0) (eVar 7))) (eOp oNe (eOp oIx (eVar 5) (eVar 6)) (eOp oIx (eVar 5) (eVar 7))))
    (sRet (eTup (lCons (eVar 3) (lCons (eVar 6) (lCons (eVar 7) lNil)))))
    sPass)
noncomputable def lb_broken_2 : SM := (sFor (iRange2 (lCons (eOp oAdd (eVar 6) (eC (.int 1))) (lCons (eVar 2) lNil))) (gVar 7) lb_broken_3)
noncomputable def lb_broken_1 : SM := (sSeq (sSet 5 lc_broken_1)
  (sFor (iRange1 (lCons (eVar 2) lNil)) (gVar 6) lb_broken_2))
noncomputable def m_broken : SM := (sSeq (sSet 2 (eCall cLen (lCons (eVar 0) lNil)))
  (sSeq (sFor (iEnum2 (eVar 1)) (gTup 2 (gCons (gVar 3) (gCons (gVar 4) gNils))) lb_broken_1)
  (sRet (eC .non))))
noncomputable def c_broken : List D → AH → ER := fsem 9 m_broken
noncomputable def m__law_cell : SM := (sSeq (sSet 2 (eSl (eVar 0) none (some (eC (.int 63)))))
  (sSeq (sIf (eOp oLt (eVar 1) (eCall cLen (lCons (eVar 2) lNil)))
    (sRet (eOp oMod (eCall cInt (lCons (eOp oIx (eVar 2) (eVar 1)) lNil)) (eOp oPowB (eC (.int 10)) (eC (.int 60)))))
    sPass)
  (sRet (eOp oMod (eCall cInt (lCons (eOp oAdd (eOp oMulA (eOp oMod (eCall cInt (lCons (eCall cSum (lCons (eVar 2) lNil)) lNil)) (eC (.int 1000003))) (eC (.int 7919))) (eOp oMulA (eC (.int 104729)) (eVar 1))) lNil)) (eOp oPowB (eC (.int 10)) (eC (.int 15)))))))
noncomputable def c__law_cell : List D → AH → ER := fsem 3 m__law_cell
noncomputable def m__law_bag : SM := (sSeq (sSet 2 (eCall (argn 2 c__law_cell) (lCons (eVar 0) (lCons (eVar 1) lNil))))
  (sRet (eLst (lCons (eVar 2) (lCons (eVar 2) (lCons (eOp oMulA (eC (.int 64)) (eVar 1)) lNil))))))
noncomputable def c__law_bag : List D → AH → ER := fsem 3 m__law_bag
noncomputable def m__law_take : SM := (sSeq (sAsg (eOp oAdd (eOp oIx (eVar 0) (eC (.int 2))) (eC (.int 1))) (fun d e h => onlyNx ((gSub putL (eVar 0) (eC (.int 2))) d e h)))
  (sSeq (sIf (eAnd (eOp oGe (eOp oIx (eVar 0) (eC (.int 1))) (eOp oPowB (eC (.int 10)) (eC (.int 18)))) (eOp oGt (eOp oIx (eVar 0) (eC (.int 0))) (eC (.int 0))))
    (sSeq (sSet 2 (eOp oMod (eCall cInt (lCons (eOp oIx (eVar 0) (eC (.int 0))) lNil)) (eVar 1)))
  (sSeq (sAsg (eOp oDiv (eOp oIx (eVar 0) (eC (.int 0))) (eVar 1)) (fun d e h => onlyNx ((gSub putL (eVar 0) (eC (.int 0))) d e h)))
  (sRet (eVar 2))))
    sPass)
  (sSeq (sSet 3 (eOp oMod (eCall cInt (lCons (eOp oMulA (eOp oAdd (eOp oIx (eVar 0) (eC (.int 1))) (eOp oMulA (eC (.int 7919)) (eOp oIx (eVar 0) (eC (.int 2))))) (eC (.int 48271))) lNil)) (eC (.int 2147483647))))
  (sSeq (sSet 3 (eOp oMod (eCall cInt (lCons (eOp oMulA (eOp oAdd (eOp oDiv (eVar 3) (eC (.int 3))) (eOp oMulA (eC (.int 104729)) (eOp oIx (eVar 0) (eC (.int 2))))) (eC (.int 69621))) lNil)) (eC (.int 2147483629))))
  (sRet (eOp oMod (eCall cInt (lCons (eOp oDiv (eVar 3) (eC (.int 7))) lNil)) (eVar 1)))))))
noncomputable def c__law_take : List D → AH → ER := fsem 4 m__law_take
noncomputable def lb__law_shuffled_1 : SM := (sSeq (sSet 4 (eOp oAdd (eVar 3) (eCall (argn 2 c__law_take) (lCons (eVar 0) (lCons (eOp oSub (eVar 1) (eVar 3)) lNil)))))
  (sSeq (sSet 5 (eOp oIx (eVar 2) (eVar 3)))
  (sSeq (sAsg (eOp oIx (eVar 2) (eVar 4)) (fun d e h => onlyNx ((gSub putL (eVar 2) (eVar 3)) d e h)))
  (sAsg (eVar 5) (fun d e h => onlyNx ((gSub putL (eVar 2) (eVar 4)) d e h))))))
noncomputable def m__law_shuffled : SM := (sSeq (sSet 2 (eRg1 false (eVar 1)))
  (sSeq (sFor (iRange1 (lCons (eOp oSub (eVar 1) (eC (.int 1))) lNil)) (gVar 3) lb__law_shuffled_1)
  (sRet (eVar 2))))
noncomputable def c__law_shuffled : List D → AH → ER := fsem 6 m__law_shuffled
noncomputable def m__law_is_whole : SM := (sRet (eAnd (eCall cIsi (lCons (eVar 0) (lCons (eC (.ty "int")) lNil))) (eNot (eCall cIsi (lCons (eVar 0) (lCons (eC (.ty "bool")) lNil))))))
noncomputable def c__law_is_whole : List D → AH → ER := fsem 1 m__law_is_whole
noncomputable def m__law_is_truth : SM := (sRet (eAnd (eCall cIsi (lCons (eVar 0) (lCons (eC (.ty "bool")) lNil))) (eOp oEq (eVar 0) (eVar 1))))
noncomputable def c__law_is_truth : List D → AH → ER := fsem 2 m__law_is_truth
noncomputable def lb__law_is_row_1 : SM := (sIf (eOr (eNot (eUn oTruth (eCall (argn 1 c__law_is_whole) (lCons (eOp oIx (eVar 0) (eVar 2)) lNil)))) (eOp oNe (eOp oIx (eVar 0) (eVar 2)) (eOp oIx (eVar 1) (eVar 2))))
    (sRet (eC (.bl false)))
    sPass)
noncomputable def m__law_is_row : SM := (sSeq (sIf (eOr (eNot (eUn oTruth (eCall cIsi (lCons (eVar 0) (lCons (eC (.ty "tuple")) lNil))))) (eOp oNe (eCall cLen (lCons (eVar 0) lNil)) (eCall cLen (lCons (eVar 1) lNil))))
    (sRet (eC (.bl false)))
    sPass)
  (sSeq (sFor (iRange1 (lCons (eCall cLen (lCons (eVar 1) lNil)) lNil)) (gVar 2) lb__law_is_row_1)
  (sRet (eC (.bl true)))))
noncomputable def c__law_is_row : List D → AH → ER := fsem 3 m__law_is_row
noncomputable def lb__law_is_rows_1 : SM := (sIf (eNot (eUn oTruth (eCall (argn 2 c__law_is_row) (lCons (eOp oIx (eVar 0) (eVar 2)) (lCons (eOp oIx (eVar 1) (eVar 2)) lNil)))))
    (sRet (eC (.bl false)))
    sPass)
noncomputable def m__law_is_rows : SM := (sSeq (sIf (eOr (eNot (eUn oTruth (eCall cIsi (lCons (eVar 0) (lCons (eC (.ty "tuple")) lNil))))) (eOp oNe (eCall cLen (lCons (eVar 0) lNil)) (eCall cLen (lCons (eVar 1) lNil))))
    (sRet (eC (.bl false)))
    sPass)
  (sSeq (sFor (iRange1 (lCons (eCall cLen (lCons (eVar 1) lNil)) lNil)) (gVar 2) lb__law_is_rows_1)
  (sRet (eC (.bl true)))))
noncomputable def c__law_is_rows : List D → AH → ER := fsem 3 m__law_is_rows
noncomputable def lb__law_partition_1 : SM := (sSeq (sSet 6 (eCall (argn 2 c__law_take) (lCons (eVar 0) (lCons (eOp oAdd (eVar 5) (eC (.int 1))) lNil))))
  (sSeq (sIf (eAnd (eOp oEq (eVar 2) (eC (.int 1))) (eOp oEq (eCall (argn 2 c__law_take) (lCons (eVar 0) (lCons (eC (.int 2)) lNil))) (eC (.int 1))))
    (sSet 6 (eVar 5))
    sPass)
  (sSeq (sIf (eOp oEq (eVar 2) (eC (.int 2)))
    (sSet 6 (eOp oSub (eVar 5) (eOp oMod (eCall cInt (lCons (eVar 5) lNil)) (eVar 3))))
    sPass)
  (sSeq (sIf (eOp oEq (eVar 2) (eC (.int 3)))
    (sSet 6 (eOp oMod (eCall cInt (lCons (eVar 5) lNil)) (eVar 3)))
    sPass)
  (sSeq (sIf (eOp oLt (eVar 6) (eVar 5))
    (sSet 6 (eOp oIx (eVar 4) (eVar 6)))
    sPass)
  (sExpr (eMeth "list" mAppend (eVar 4) (lCons (eVar 6) lNil))))))))
noncomputable def m__law_partition : SM := (sSeq (sSet 2 (eCall (argn 2 c__law_take) (lCons (eVar 0) (lCons (eC (.int 4)) lNil))))
  (sSeq (sSet 3 (eOp oAdd (eC (.int 1)) (eCall (argn 2 c__law_take) (lCons (eVar 0) (lCons (eVar 1) lNil)))))
  (sSeq (sSet 4 (eLst lNil))
  (sSeq (sFor (iRange1 (lCons (eVar 1) lNil)) (gVar 5) lb__law_partition_1)
  (sRet (eCall cTuple (lCons (eVar 4) lNil)))))))
noncomputable def c__law_partition : List D → AH → ER := fsem 7 m__law_partition
noncomputable def lc__law_classes_1 : EM := (eLc (iRange1 (lCons (eCall cLen (lCons (eVar 0) lNil)) lNil)) (gVar 3) (eOp oEq (eOp oIx (eVar 0) (eVar 3)) (eVar 2)) (eVar 3) [3])
noncomputable def lb__law_classes_1 : SM := (sIf (eOp oEq (eOp oIx (eVar 0) (eVar 2)) (eVar 2))
    (sExpr (eMeth "list" mAppend (eVar 1) (lCons (eCall cTuple (lCons lc__law_classes_1 lNil)) lNil)))
    sPass)
noncomputable def m__law_classes : SM := (sSeq (sSet 1 (eLst lNil))
  (sSeq (sFor (iRange1 (lCons (eCall cLen (lCons (eVar 0) lNil)) lNil)) (gVar 2) lb__law_classes_1)
  (sRet (eVar 1))))
noncomputable def c__law_classes : List D → AH → ER := fsem 4 m__law_classes
noncomputable def lc__law_keeping_1 : EM := (eLc (iRange1 (lCons (eCall cLen (lCons (eVar 2) lNil)) lNil)) (gVar 10) (eAnd (eOp oNotIn2 (eVar 10) (eVar 4)) (eOp oEq (eCall cLen (lCons (eOp oIx (eVar 2) (eVar 10)) lNil)) (eCall cLen (lCons (eVar 5) lNil)))) (eVar 10) [10])
noncomputable def lb__law_keeping_2 : SM := (sAsg (eOp oIx (eOp oIx (eVar 2) (eVar 7)) (eOp oIx (eVar 8) (eVar 9))) (fun d e h => onlyNx ((gSub putL (eVar 3) (eOp oIx (eVar 5) (eVar 9))) d e h)))
noncomputable def lb__law_keeping_1 : SM := (sSeq (sSet 6 lc__law_keeping_1)
  (sSeq (sSet 7 (eOp oIx (eVar 6) (eCall (argn 2 c__law_take) (lCons (eVar 0) (lCons (eCall cLen (lCons (eVar 6) lNil)) lNil)))))
  (sSeq (sExpr (eMeth "list" mAppend (eVar 4) (lCons (eVar 7) lNil)))
  (sSeq (sSet 8 (eCall (argn 2 c__law_shuffled) (lCons (eVar 0) (lCons (eCall cLen (lCons (eVar 5) lNil)) lNil))))
  (sFor (iRange1 (lCons (eCall cLen (lCons (eVar 5) lNil)) lNil)) (gVar 9) lb__law_keeping_2)))))
noncomputable def m__law_keeping : SM := (sSeq (sSet 2 (eCall (argn 1 c__law_classes) (lCons (eVar 1) lNil)))
  (sSeq (sSet 3 (eOp oMulA (eLst (lCons (eC (.int 0)) lNil)) (eCall cLen (lCons (eVar 1) lNil))))
  (sSeq (sSet 4 (eLst lNil))
  (sSeq (sFor (iVal (eVar 2)) (gVar 5) lb__law_keeping_1)
  (sRet (eVar 3))))))
noncomputable def c__law_keeping : List D → AH → ER := fsem 11 m__law_keeping
noncomputable def m__law_moving : SM := (sSeq (sSet 3 (eCall (argn 2 c__law_take) (lCons (eVar 0) (lCons (eC (.int 4)) lNil))))
  (sSeq (sIf (eUn oTruth (eVar 2))
    (sSet 3 (eC (.int 2)))
    sPass)
  (sSeq (sIf (eOp oEq (eVar 3) (eC (.int 0)))
    (sRet (eCall cTuple (lCons (eCall (argn 2 c__law_shuffled) (lCons (eVar 0) (lCons (eCall cLen (lCons (eVar 1) lNil)) lNil))) lNil)))
    sPass)
  (sSeq (sSet 4 (eCall (argn 2 c__law_keeping) (lCons (eVar 0) (lCons (eVar 1) lNil))))
  (sSeq (sIf (eOp oEq (eVar 3) (eC (.int 1)))
    (sSeq (sSet 5 (eCall (argn 2 c__law_take) (lCons (eVar 0) (lCons (eCall cLen (lCons (eVar 1) lNil)) lNil))))
  (sSeq (sSet 6 (eCall (argn 2 c__law_take) (lCons (eVar 0) (lCons (eCall cLen (lCons (eVar 1) lNil)) lNil))))
  (sSeq (sSet 7 (eOp oIx (eVar 4) (eVar 5)))
  (sSeq (sAsg (eOp oIx (eVar 4) (eVar 6)) (fun d e h => onlyNx ((gSub putL (eVar 4) (eVar 5)) d e h)))
  (sAsg (eVar 7) (fun d e h => onlyNx ((gSub putL (eVar 4) (eVar 6)) d e h)))))))
    sPass)
  (sRet (eCall cTuple (lCons (eVar 4) lNil))))))))
noncomputable def c__law_moving : List D → AH → ER := fsem 8 m__law_moving
noncomputable def lb__law_finer_2 : SM := (sIf (eAnd (eOp oEq (eOp oIx (eVar 0) (eVar 2)) (eOp oIx (eVar 0) (eVar 3))) (eOp oNe (eOp oIx (eVar 1) (eVar 2)) (eOp oIx (eVar 1) (eVar 3))))
    (sRet (eC (.bl false)))
    sPass)
noncomputable def lb__law_finer_1 : SM := (sFor (iRange1 (lCons (eVar 2) lNil)) (gVar 3) lb__law_finer_2)
noncomputable def m__law_finer : SM := (sSeq (sFor (iRange1 (lCons (eCall cLen (lCons (eVar 0) lNil)) lNil)) (gVar 2) lb__law_finer_1)
  (sRet (eC (.bl true))))
noncomputable def c__law_finer : List D → AH → ER := fsem 4 m__law_finer
noncomputable def lc__law_meet_1 : EM := (eLc (iRange1 (lCons (eOp oAdd (eVar 3) (eC (.int 1))) lNil)) (gVar 4) (eAnd (eOp oEq (eOp oIx (eVar 0) (eVar 4)) (eOp oIx (eVar 0) (eVar 3))) (eOp oEq (eOp oIx (eVar 1) (eVar 4)) (eOp oIx (eVar 1) (eVar 3)))) (eVar 4) [4])
noncomputable def lb__law_meet_1 : SM := (sExpr (eMeth "list" mAppend (eVar 2) (lCons (eCall cMinA (lCons lc__law_meet_1 lNil)) lNil)))
noncomputable def m__law_meet : SM := (sSeq (sSet 2 (eLst lNil))
  (sSeq (sFor (iRange1 (lCons (eCall cLen (lCons (eVar 0) lNil)) lNil)) (gVar 3) lb__law_meet_1)
  (sRet (eCall cTuple (lCons (eVar 2) lNil)))))
noncomputable def c__law_meet : List D → AH → ER := fsem 5 m__law_meet
noncomputable def lc__law_join_1 : EM := (eLc (iVal (eVar 2)) (gVar 6) (eC (.bl true)) (eIf (eOp oEq (eVar 6) (eVar 5)) (eVar 4) (eVar 6)) [6])
noncomputable def lb__law_join_1 : SM := (sSeq (sSet 4 (eCall cMin2 (lCons (eOp oIx (eVar 2) (eVar 3)) (lCons (eOp oIx (eVar 2) (eOp oIx (eVar 1) (eVar 3))) lNil))))
  (sSeq (sSet 5 (eCall cMax2 (lCons (eOp oIx (eVar 2) (eVar 3)) (lCons (eOp oIx (eVar 2) (eOp oIx (eVar 1) (eVar 3))) lNil))))
  (sSet 2 lc__law_join_1)))
noncomputable def m__law_join : SM := (sSeq (sSet 2 (eCall cList (lCons (eVar 0) lNil)))
  (sSeq (sFor (iRange1 (lCons (eCall cLen (lCons (eVar 0) lNil)) lNil)) (gVar 3) lb__law_join_1)
  (sRet (eCall cTuple (lCons (eVar 2) lNil)))))
noncomputable def c__law_join : List D → AH → ER := fsem 7 m__law_join
noncomputable def lb__law_is_labels_1 : SM := (sSeq (sIf (eOr (eNot (eUn oTruth (eCall (argn 1 c__law_is_whole) (lCons (eOp oIx (eVar 0) (eVar 2)) lNil)))) (eOr (eOp oLt (eOp oIx (eVar 0) (eVar 2)) (eC (.int 0))) (eOp oGt (eOp oIx (eVar 0) (eVar 2)) (eVar 2))))
    (sRet (eC (.bl false)))
    sPass)
  (sIf (eOp oNe (eOp oIx (eVar 0) (eOp oIx (eVar 0) (eVar 2))) (eOp oIx (eVar 0) (eVar 2)))
    (sRet (eC (.bl false)))
    sPass))
noncomputable def m__law_is_labels : SM := (sSeq (sIf (eOr (eNot (eUn oTruth (eCall cIsi (lCons (eVar 0) (lCons (eC (.ty "tuple")) lNil))))) (eOp oNe (eCall cLen (lCons (eVar 0) lNil)) (eVar 1)))
    (sRet (eC (.bl false)))
    sPass)
  (sSeq (sFor (iRange1 (lCons (eVar 1) lNil)) (gVar 2) lb__law_is_labels_1)
  (sRet (eC (.bl true)))))
noncomputable def c__law_is_labels : List D → AH → ER := fsem 3 m__law_is_labels
noncomputable def lb__law_first_break_3 : SM := (sIf (eAnd (eOp oEq (eOp oIx (eVar 0) (eVar 3)) (eOp oIx (eVar 0) (eVar 4))) (eOp oNe (eOp oIx (eVar 0) (eOp oIx (eOp oIx (eVar 1) (eVar 2)) (eVar 3))) (eOp oIx (eVar 0) (eOp oIx (eOp oIx (eVar 1) (eVar 2)) (eVar 4)))))
    (sRet (eTup (lCons (eVar 2) (lCons (eVar 3) (lCons (eVar 4) lNil)))))
    sPass)
noncomputable def lb__law_first_break_2 : SM := (sFor (iRange2 (lCons (eOp oAdd (eVar 3) (eC (.int 1))) (lCons (eCall cLen (lCons (eVar 0) lNil)) lNil))) (gVar 4) lb__law_first_break_3)
noncomputable def lb__law_first_break_1 : SM := (sFor (iRange1 (lCons (eCall cLen (lCons (eVar 0) lNil)) lNil)) (gVar 3) lb__law_first_break_2)
noncomputable def m__law_first_break : SM := (sSeq (sFor (iRange1 (lCons (eCall cLen (lCons (eVar 1) lNil)) lNil)) (gVar 2) lb__law_first_break_1)
  (sRet (eC .non)))
noncomputable def c__law_first_break : List D → AH → ER := fsem 5 m__law_first_break
noncomputable def lb__law_pairs_hold_1 : SM := (sSeq (sIf (eNot (eUn oTruth (eCall (argn 2 c__law_is_truth) (lCons (eCall (argn 2 c_finer) (lCons (eOp oIx (eVar 2) (eC (.int 0))) (lCons (eOp oIx (eVar 2) (eC (.int 1))) lNil))) (lCons (eCall (argn 2 c__law_finer) (lCons (eOp oIx (eVar 2) (eC (.int 0))) (lCons (eOp oIx (eVar 2) (eC (.int 1))) lNil))) lNil)))))
    (sRet (eC (.bl false)))
    sPass)
  (sSeq (sIf (eNot (eUn oTruth (eCall (argn 2 c__law_is_row) (lCons (eCall (argn 2 c_meet_labels) (lCons (eOp oIx (eVar 2) (eC (.int 0))) (lCons (eOp oIx (eVar 2) (eC (.int 1))) lNil))) (lCons (eCall (argn 2 c__law_meet) (lCons (eOp oIx (eVar 2) (eC (.int 0))) (lCons (eOp oIx (eVar 2) (eC (.int 1))) lNil))) lNil)))))
    (sRet (eC (.bl false)))
    sPass)
  (sIf (eNot (eUn oTruth (eCall (argn 2 c__law_is_row) (lCons (eCall (argn 2 c_join_labels) (lCons (eOp oIx (eVar 2) (eC (.int 0))) (lCons (eOp oIx (eVar 2) (eC (.int 1))) lNil))) (lCons (eCall (argn 2 c__law_join) (lCons (eOp oIx (eVar 2) (eC (.int 0))) (lCons (eOp oIx (eVar 2) (eC (.int 1))) lNil))) lNil)))))
    (sRet (eC (.bl false)))
    sPass)))
noncomputable def m__law_pairs_hold : SM := (sSeq (sFor (iVal (eLst (lCons (eTup (lCons (eVar 0) (lCons (eVar 1) lNil))) (lCons (eTup (lCons (eVar 1) (lCons (eVar 0) lNil))) (lCons (eTup (lCons (eVar 0) (lCons (eVar 0) lNil))) lNil))))) (gVar 2) lb__law_pairs_hold_1)
  (sRet (eC (.bl true))))
noncomputable def c__law_pairs_hold : List D → AH → ER := fsem 3 m__law_pairs_hold
noncomputable def m__law_no_classes : SM := (sSeq (sSet 3 (eCall (argn 2 c__law_take) (lCons (eVar 0) (lCons (eC (.int 4)) lNil))))
  (sSeq (sSet 4 (eCall (argn 2 c__law_take) (lCons (eVar 0) (lCons (eOp oAdd (eCall cLen (lCons (eVar 1) lNil)) (eC (.int 1))) lNil))))
  (sSeq (sIf (eOp oEq (eVar 3) (eC (.int 0)))
    (sRet (eOp oIx (eLst (lCons (eC .non) (lCons (eC (.str (Str.ofString ""))) (lCons (eC (.str (Str.ofString "0"))) (lCons (eC (.int 0)) (lCons (eC (.bl true)) (lCons (eUn oNeg (eC (.int 1))) lNil))))))) (eCall (argn 2 c__law_take) (lCons (eVar 0) (lCons (eC (.int 6)) lNil)))))
    sPass)
  (sSeq (sIf (eOp oEq (eVar 3) (eC (.int 1)))
    (sSeq (sSet 5 (eLst (lCons (eTup lNil) (lCons (eTup (lCons (eVar 2) lNil)) (lCons (eTup (lCons (eUn oNeg (eC (.int 1))) lNil)) (lCons (eTup (lCons (eC (.int 0)) (lCons (eC (.int 0)) lNil))) (lCons (eTup (lCons (eC .non) lNil)) (lCons (eC (.int 0)) (lCons (eTup (lCons (eC (.bl true)) lNil)) (lCons (eC (.str (Str.ofString "0"))) (lCons (eC .non) (lCons (eTup (lCons (eC (.str (Str.ofString "0"))) lNil)) (lCons (eTup (lCons (eTup (lCons (eC (.int 0)) lNil)) lNil)) (lCons (eVar 2) lNil))))))))))))))
  (sRet (eOp oAdd (eOp oAdd (eSl (eVar 1) none (some (eVar 4))) (eTup (lCons (eOp oIx (eVar 5) (eCall (argn 2 c__law_take) (lCons (eVar 0) (lCons (eC (.int 12)) lNil)))) lNil))) (eSl (eVar 1) (some (eVar 4)) none))))
    sPass)
  (sSeq (sIf (eOp oEq (eCall cLen (lCons (eVar 1) lNil)) (eC (.int 0)))
    (sRet (eTup (lCons (eTup (lCons (eC (.int 0)) (lCons (eC (.int 0)) lNil))) lNil)))
    sPass)
  (sSeq (sSet 6 (eCall (argn 2 c__law_take) (lCons (eVar 0) (lCons (eCall cLen (lCons (eVar 1) lNil)) lNil))))
  (sSeq (sIf (eOp oEq (eVar 3) (eC (.int 2)))
    (sRet (eOp oAdd (eOp oAdd (eSl (eVar 1) none (some (eVar 4))) (eTup (lCons (eTup (lCons (eOp oIx (eOp oIx (eVar 1) (eVar 6)) (eCall (argn 2 c__law_take) (lCons (eVar 0) (lCons (eCall cLen (lCons (eOp oIx (eVar 1) (eVar 6)) lNil)) lNil)))) lNil)) lNil))) (eSl (eVar 1) (some (eVar 4)) none)))
    sPass)
  (sSeq (sSet 7 (eOp oIx (eLst (lCons (eVar 2) (lCons (eOp oAdd (eVar 2) (eC (.int 1))) (lCons (eUn oNeg (eC (.int 1))) (lCons (eC .non) (lCons (eC (.bl false)) (lCons (eC (.str (Str.ofString "0"))) (lCons (eTup (lCons (eC (.int 0)) lNil)) (lCons (eOp oIx (eOp oIx (eVar 1) (eVar 6)) (eC (.int 0))) lNil))))))))) (eCall (argn 2 c__law_take) (lCons (eVar 0) (lCons (eC (.int 8)) lNil)))))
  (sRet (eOp oAdd (eOp oAdd (eSl (eVar 1) none (some (eVar 6))) (eTup (lCons (eOp oAdd (eOp oIx (eVar 1) (eVar 6)) (eTup (lCons (eVar 7) lNil))) lNil))) (eSl (eVar 1) (some (eOp oAdd (eVar 6) (eC (.int 1)))) none)))))))))))
noncomputable def c__law_no_classes : List D → AH → ER := fsem 8 m__law_no_classes
noncomputable def th__law_refused_1_InvalidLabels : List (Str × D) → SM := (fun fs => (sSeq (sIf (eOr (eNot (eUn oTruth (eC (.bl true)))) (eNot (eUn oTruth (eC (.bl true)))))
    (sRet (eC (.bl false)))
    sPass)
  (sSeq (sIf (eOr (eUn oTruth (eC (.bl false))) (eUn oTruth (eC (.bl false))))
    (sRet (eC (.bl false)))
    sPass)
  (sRet (eAnd (eOp oEq (eCall cRepr (lCons (eFld "value" fs) lNil)) (eCall cRepr (lCons (eVar 0) lNil))) (eOp oEq (eFld "value" fs) (eVar 0)))))))
noncomputable def th__law_refused_1 : Str → List (Str × D) → SM := (fun c fs => (if c = "InvalidLabels" then th__law_refused_1_InvalidLabels fs else sStuck))
noncomputable def m__law_refused : SM := (sSeq (sTry (fun c => ([("InvalidLabels", true)] : List (Str × Bool)).lookup c) 2 (sExpr (eCall (argn 2 c_labels_of) (lCons (eVar 0) (lCons (eVar 1) lNil)))) th__law_refused_1)
  (sRet (eC (.bl false))))
noncomputable def c__law_refused : List D → AH → ER := fsem 3 m__law_refused
noncomputable def lb__law_classes_hold_2 : SM := (sAsg (eOp oIx (eOp oIx (eVar 3) (eVar 6)) (eC (.int 0))) (fun d e h => onlyNx ((gSub putL (eVar 5) (eVar 7)) d e h)))
noncomputable def lb__law_classes_hold_1 : SM := (sIf (eOp oNe (eCall (argn 2 c__law_take) (lCons (eVar 0) (lCons (eC (.int 4)) lNil))) (eC (.int 1)))
    (sSeq (sExpr (eMeth "list" mAppend (eVar 4) (lCons (eOp oIx (eVar 3) (eVar 6)) lNil)))
  (sFor (iVal (eOp oIx (eVar 3) (eVar 6))) (gVar 7) lb__law_classes_hold_2))
    sPass)
noncomputable def m__law_classes_hold : SM := (sSeq (sSet 2 (eCall cLen (lCons (eVar 1) lNil)))
  (sSeq (sSet 3 (eCall (argn 1 c__law_classes) (lCons (eVar 1) lNil)))
  (sSeq (sIf (eNot (eUn oTruth (eCall (argn 2 c__law_is_rows) (lCons (eCall (argn 1 c_classes_of) (lCons (eVar 1) lNil)) (lCons (eVar 3) lNil)))))
    (sRet (eC (.bl false)))
    sPass)
  (sSeq (sSet 4 (eLst lNil))
  (sSeq (sSet 5 (eRg1 false (eVar 2)))
  (sSeq (sFor (iVal (eCall (argn 2 c__law_shuffled) (lCons (eVar 0) (lCons (eCall cLen (lCons (eVar 3) lNil)) lNil)))) (gVar 6) lb__law_classes_hold_1)
  (sSeq (sIf (eNot (eUn oTruth (eCall (argn 2 c__law_is_row) (lCons (eCall (argn 2 c_labels_of) (lCons (eCall cTuple (lCons (eVar 4) lNil)) (lCons (eVar 2) lNil))) (lCons (eVar 5) lNil)))))
    (sRet (eC (.bl false)))
    sPass)
  (sSeq (sIf (eNot (eUn oTruth (eCall (argn 2 (noX c__law_refused)) (lCons (eCall (argn 3 c__law_no_classes) (lCons (eVar 0) (lCons (eCall cTuple (lCons (eVar 4) lNil)) (lCons (eVar 2) lNil)))) (lCons (eVar 2) lNil)))))
    (sRet (eC (.bl false)))
    sPass)
  (sRet (eCall (argn 2 c__law_is_row) (lCons (eCall (argn 2 c_labels_of) (lCons (eTupRev (eVar 3)) (lCons (eVar 2) lNil))) (lCons (eVar 1) lNil))))))))))))
noncomputable def c__law_classes_hold : List D → AH → ER := fsem 8 m__law_classes_hold
noncomputable def lc__law_tests_hold_1 : EM := (eLc (iRange1 (lCons (eVar 2) lNil)) (gVar 5) (eOp oEq (eOp oIx (eVar 1) (eVar 5)) (eOp oIx (eVar 1) (eVar 4))) (eVar 5) [5])
noncomputable def lb__law_tests_hold_1 : SM := (sAsg (eCall cMaxL (lCons lc__law_tests_hold_1 lNil)) (fun d e h => onlyNx ((gSub putL (eVar 3) (eVar 4)) d e h)))
noncomputable def lc__law_tests_hold_2 : EM := (eLc (iRange1 (lCons (eVar 2) lNil)) (gVar 4) (eC (.bl true)) (eCall cMax2 (lCons (eC (.int 0)) (lCons (eOp oSub (eVar 4) (eC (.int 1))) lNil))) [4])
noncomputable def lb__law_tests_hold_2 : SM := (sSeq (sSet 8 (eCall (argn 2 c__law_take) (lCons (eVar 0) (lCons (eVar 2) lNil))))
  (sSeq (sSet 9 (eOp oIx (eVar 1) (eCall (argn 2 c__law_take) (lCons (eVar 0) (lCons (eVar 2) lNil)))))
  (sSeq (sSet 10 (eLst (lCons (eUn oNeg (eC (.int 1))) (lCons (eVar 2) (lCons (eVar 8) (lCons (eOp oAdd (eVar 8) (eC (.int 1))) (lCons (eC (.int 0)) (lCons (eVar 9) (lCons (eC .non) (lCons (eC (.bl true)) (lCons (eC (.bl false)) (lCons (eC (.str (Str.ofString "0"))) (lCons (eTup (lCons (eC (.int 0)) lNil)) (lCons (eUn oNeg (eVar 2)) lNil))))))))))))))
  (sExpr (eMeth "list" mAppend (eVar 6) (lCons (eOp oAdd (eOp oAdd (eSl (eVar 1) none (some (eVar 8))) (eTup (lCons (eOp oIx (eVar 10) (eCall (argn 2 c__law_take) (lCons (eVar 0) (lCons (eC (.int 12)) lNil)))) lNil))) (eSl (eVar 1) (some (eOp oAdd (eVar 8) (eC (.int 1)))) none)) lNil))))))
noncomputable def lb__law_tests_hold_4 : SM := (sIf (eNot (eUn oTruth (eCall (argn 2 c__law_is_truth) (lCons (eCall (argn 2 c_is_labels) (lCons (eVar 11) (lCons (eVar 12) lNil))) (lCons (eCall (argn 2 c__law_is_labels) (lCons (eVar 11) (lCons (eVar 12) lNil))) lNil)))))
    (sRet (eC (.bl false)))
    sPass)
noncomputable def lb__law_tests_hold_3 : SM := (sFor (iVal (eLst (lCons (eVar 2) (lCons (eOp oAdd (eVar 2) (eC (.int 1))) (lCons (eCall cMax2 (lCons (eC (.int 1)) (lCons (eOp oSub (eVar 2) (eC (.int 1))) lNil))) lNil))))) (gVar 12) lb__law_tests_hold_4)
noncomputable def m__law_tests_hold : SM := (sSeq (sSet 2 (eCall cLen (lCons (eVar 1) lNil)))
  (sSeq (sSet 3 (eOp oMulA (eLst (lCons (eC (.int 0)) lNil)) (eVar 2)))
  (sSeq (sFor (iRange1 (lCons (eVar 2) lNil)) (gVar 4) lb__law_tests_hold_1)
  (sSeq (sSet 6 (eLst (lCons (eVar 1) (lCons (eOp oAdd (eVar 1) (eTup (lCons (eC (.int 0)) lNil))) (lCons (eOp oAdd (eVar 1) (eTup (lCons (eVar 2) lNil))) (lCons (eSl (eVar 1) none (some (eOp oSub (eVar 2) (eC (.int 1))))) (lCons (eC .non) (lCons (eC (.str (Str.ofString ""))) (lCons (eC (.int 0)) (lCons (eVar 2) lNil))))))))))
  (sSeq (sSet 6 (eOp oAdd (eVar 6) (eLst (lCons (eCall cTuple (lCons (eVar 3) lNil)) (lCons (eCall cTuple (lCons lc__law_tests_hold_2 lNil)) (lCons (eOp oAdd (eTup (lCons (eC (.bl false)) lNil)) (eSl (eVar 1) (some (eC (.int 1))) none)) lNil))))))
  (sSeq (sFor (iRange1 (lCons (eC (.int 4)) lNil)) (gVar 7) lb__law_tests_hold_2)
  (sSeq (sFor (iVal (eVar 6)) (gVar 11) lb__law_tests_hold_3)
  (sRet (eC (.bl true))))))))))
noncomputable def c__law_tests_hold : List D → AH → ER := fsem 13 m__law_tests_hold
noncomputable def m__law_breaks_hold : SM := (sSeq (sSet 2 (eCall (argn 2 c__law_first_break) (lCons (eVar 0) (lCons (eVar 1) lNil))))
  (sSeq (sSet 3 (eCall (argn 2 c_broken) (lCons (eVar 0) (lCons (eVar 1) lNil))))
  (sSeq (sIf (eOp oIs (eVar 2) (eC .non))
    (sRet (eOp oIs (eVar 3) (eC .non)))
    sPass)
  (sRet (eCall (argn 2 c__law_is_row) (lCons (eVar 3) (lCons (eVar 2) lNil)))))))
noncomputable def c__law_breaks_hold : List D → AH → ER := fsem 4 m__law_breaks_hold
noncomputable def lc_law_1 : EM := (eLc (iRange1 (lCons (eVar 6) lNil)) (gVar 9) (eC (.bl true)) (eCall (argn 3 c__law_moving) (lCons (eCall (argn 2 c__law_bag) (lCons (eVar 0) (lCons (eOp oAdd (eC (.int 3)) (eVar 9)) lNil))) (lCons (eVar 3) (lCons (eVar 7) lNil)))) [9])
noncomputable def lb_law_1 : SM := (sIf (eNot (eUn oTruth (eCall (argn 2 c__law_breaks_hold) (lCons (eVar 10) (lCons (eVar 8) lNil)))))
    (sRet (eC (.bl false)))
    sPass)
noncomputable def m_law : SM := (sSeq (sSet 1 (eCall (argn 2 c__law_bag) (lCons (eVar 0) (lCons (eC (.int 0)) lNil))))
  (sSeq (sSet 2 (eOp oAdd (eC (.int 1)) (eCall (argn 2 c__law_take) (lCons (eVar 1) (lCons (eC (.int 8)) lNil)))))
  (sSeq (sIf (eOp oEq (eCall (argn 2 c__law_take) (lCons (eVar 1) (lCons (eC (.int 8)) lNil))) (eC (.int 3)))
    (sSet 2 (eOp oAdd (eC (.int 9)) (eCall (argn 2 c__law_take) (lCons (eVar 1) (lCons (eC (.int 15)) lNil)))))
    sPass)
  (sSeq (sSet 3 (eCall (argn 2 c__law_partition) (lCons (eCall (argn 2 c__law_bag) (lCons (eVar 0) (lCons (eC (.int 1)) lNil))) (lCons (eVar 2) lNil))))
  (sSeq (sSet 4 (eCall (argn 2 c__law_partition) (lCons (eCall (argn 2 c__law_bag) (lCons (eVar 0) (lCons (eC (.int 2)) lNil))) (lCons (eVar 2) lNil))))
  (sSeq (sSet 5 (eCall (argn 2 c__law_take) (lCons (eVar 1) (lCons (eC (.int 4)) lNil))))
  (sSeq (sIf (eOp oEq (eVar 5) (eC (.int 1)))
    (sSet 4 (eCall (argn 2 c__law_meet) (lCons (eVar 3) (lCons (eVar 4) lNil))))
    sPass)
  (sSeq (sIf (eOp oEq (eVar 5) (eC (.int 2)))
    (sSet 4 (eCall (argn 2 c__law_join) (lCons (eVar 3) (lCons (eVar 4) lNil))))
    sPass)
  (sSeq (sSet 6 (eCall (argn 2 c__law_take) (lCons (eVar 1) (lCons (eC (.int 5)) lNil))))
  (sSeq (sSet 7 (eOp oEq (eCall (argn 2 c__law_take) (lCons (eVar 1) (lCons (eC (.int 2)) lNil))) (eC (.int 1))))
  (sSeq (sSet 8 (eCall cTuple (lCons lc_law_1 lNil)))
  (sSeq (sIf (eNot (eUn oTruth (eCall (argn 2 c__law_pairs_hold) (lCons (eVar 3) (lCons (eVar 4) lNil)))))
    (sRet (eC (.bl false)))
    sPass)
  (sSeq (sIf (eNot (eUn oTruth (eCall (argn 2 (noX c__law_classes_hold)) (lCons (eCall (argn 2 c__law_bag) (lCons (eVar 0) (lCons (eC (.int 7)) lNil))) (lCons (eVar 3) lNil)))))
    (sRet (eC (.bl false)))
    sPass)
  (sSeq (sIf (eNot (eUn oTruth (eCall (argn 2 (noX c__law_classes_hold)) (lCons (eCall (argn 2 c__law_bag) (lCons (eVar 0) (lCons (eC (.int 8)) lNil))) (lCons (eVar 4) lNil)))))
    (sRet (eC (.bl false)))
    sPass)
  (sSeq (sIf (eNot (eUn oTruth (eCall (argn 2 c__law_tests_hold) (lCons (eCall (argn 2 c__law_bag) (lCons (eVar 0) (lCons (eC (.int 9)) lNil))) (lCons (eVar 3) lNil)))))
    (sRet (eC (.bl false)))
    sPass)
  (sSeq (sIf (eNot (eUn oTruth (eCall (argn 2 c__law_tests_hold) (lCons (eCall (argn 2 c__law_bag) (lCons (eVar 0) (lCons (eC (.int 10)) lNil))) (lCons (eVar 4) lNil)))))
    (sRet (eC (.bl false)))
    sPass)
  (sSeq (sFor (iVal (eLst (lCons (eVar 3) (lCons (eVar 4) (lCons (eCall (argn 2 c__law_meet) (lCons (eVar 3) (lCons (eVar 4) lNil))) lNil))))) (gVar 10) lb_law_1)
  (sRet (eAnd (eCall (argn 2 c__law_breaks_hold) (lCons (eVar 3) (lCons (eSl (eVar 8) (some (eC (.int 1))) none) lNil))) (eCall (argn 2 c__law_pairs_hold) (lCons (eVar 4) (lCons (eVar 3) lNil))))))))))))))))))))))
noncomputable def c_law : List D → AH → ER := fsem 11 m_law
end Law

set_option maxHeartbeats 4000000
/-! printed by mk.py: the walk of each def -/
namespace Law
open PySem PySem.Spec PyProof.Rows L2 Rf
abbrev P0 : Program := PySem.Challenge.rw_tumbler_k10_partitions_and_breaks.prog
def topS (i : Nat) : Stmt := PySem.Challenge.pw_tumbler_k10_partitions_and_breaks.main.body.getD i (.Pass ⟨0, 0, 0, 0⟩)
abbrev s_is_whole : Stmt := topS 6
abbrev N_is_whole : List Str := ["value"]
theorem sc_is_whole : FnScope N_is_whole ["value"] (defScope s_is_whole) := ⟨rfl, rfl, rfl, by decide +kernel, rfl, by decide +kernel, by decide +kernel⟩
abbrev s_is_index : Stmt := topS 7
abbrev N_is_index : List Str := ["value", "limit"]
theorem sc_is_index : FnScope N_is_index ["value", "limit"] (defScope s_is_index) := ⟨rfl, rfl, rfl, by decide +kernel, rfl, by decide +kernel, by decide +kernel⟩
abbrev s_is_row : Stmt := topS 8
abbrev N_is_row : List Str := ["value", "length"]
theorem sc_is_row : FnScope N_is_row ["value", "length"] (defScope s_is_row) := ⟨rfl, rfl, rfl, by decide +kernel, rfl, by decide +kernel, by decide +kernel⟩
abbrev s_merged : Stmt := topS 10
abbrev N_merged : List Str := ["labels", "i", "j", "low", "high", "label"]
theorem sc_merged : FnScope N_merged ["labels", "i", "j"] (defScope s_merged) := ⟨rfl, rfl, rfl, by decide +kernel, rfl, by decide +kernel, by decide +kernel⟩
abbrev s_is_labels : Stmt := topS 11
abbrev N_is_labels : List Str := ["value", "points", "point", "label"]
theorem sc_is_labels : FnScope N_is_labels ["value", "points"] (defScope s_is_labels) := ⟨rfl, rfl, rfl, by decide +kernel, rfl, by decide +kernel, by decide +kernel⟩
abbrev s_classes_of : Stmt := topS 12
abbrev N_classes_of : List Str := ["labels", "found", "point", "label", "row"]
theorem sc_classes_of : FnScope N_classes_of ["labels"] (defScope s_classes_of) := ⟨rfl, rfl, rfl, by decide +kernel, rfl, by decide +kernel, by decide +kernel⟩
abbrev s_labels_of : Stmt := topS 13
abbrev N_labels_of : List Str := ["classes", "points", "labels", "met", "row", "point", "least"]
theorem sc_labels_of : FnScope N_labels_of ["classes", "points"] (defScope s_labels_of) := ⟨rfl, rfl, rfl, by decide +kernel, rfl, by decide +kernel, by decide +kernel⟩
abbrev s_finer : Stmt := topS 14
abbrev N_finer : List Str := ["first", "second", "point", "label"]
theorem sc_finer : FnScope N_finer ["first", "second"] (defScope s_finer) := ⟨rfl, rfl, rfl, by decide +kernel, rfl, by decide +kernel, by decide +kernel⟩
abbrev s_meet_labels : Stmt := topS 15
abbrev N_meet_labels : List Str := ["first", "second", "least", "labels", "point", "label", "key"]
theorem sc_meet_labels : FnScope N_meet_labels ["first", "second"] (defScope s_meet_labels) := ⟨rfl, rfl, rfl, by decide +kernel, rfl, by decide +kernel, by decide +kernel⟩
abbrev s_join_labels : Stmt := topS 16
abbrev N_join_labels : List Str := ["first", "second", "labels", "point", "label"]
theorem sc_join_labels : FnScope N_join_labels ["first", "second"] (defScope s_join_labels) := ⟨rfl, rfl, rfl, by decide +kernel, rfl, by decide +kernel, by decide +kernel⟩
abbrev s_broken : Stmt := topS 17
abbrev N_broken : List Str := ["labels", "perms", "points", "k", "perm", "images", "i", "j", "point"]
theorem sc_broken : FnScope N_broken ["labels", "perms"] (defScope s_broken) := ⟨rfl, rfl, rfl, by decide +kernel, rfl, by decide +kernel, by decide +kernel⟩
abbrev s__law_cell : Stmt := topS 19
abbrev N__law_cell : List Str := ["script", "k", "cells"]
theorem sc__law_cell : FnScope N__law_cell ["script", "k"] (defScope s__law_cell) := ⟨rfl, rfl, rfl, by decide +kernel, rfl, by decide +kernel, by decide +kernel⟩
abbrev s__law_bag : Stmt := topS 20
abbrev N__law_bag : List Str := ["script", "k", "cell"]
theorem sc__law_bag : FnScope N__law_bag ["script", "k"] (defScope s__law_bag) := ⟨rfl, rfl, rfl, by decide +kernel, rfl, by decide +kernel, by decide +kernel⟩
abbrev s__law_take : Stmt := topS 21
abbrev N__law_take : List Str := ["bag", "size", "digit", "mixed"]
theorem sc__law_take : FnScope N__law_take ["bag", "size"] (defScope s__law_take) := ⟨rfl, rfl, rfl, by decide +kernel, rfl, by decide +kernel, by decide +kernel⟩
abbrev s__law_shuffled : Stmt := topS 22
abbrev N__law_shuffled : List Str := ["bag", "many", "row", "k", "other", "held"]
theorem sc__law_shuffled : FnScope N__law_shuffled ["bag", "many"] (defScope s__law_shuffled) := ⟨rfl, rfl, rfl, by decide +kernel, rfl, by decide +kernel, by decide +kernel⟩
abbrev s__law_is_whole : Stmt := topS 23
abbrev N__law_is_whole : List Str := ["value"]
theorem sc__law_is_whole : FnScope N__law_is_whole ["value"] (defScope s__law_is_whole) := ⟨rfl, rfl, rfl, by decide +kernel, rfl, by decide +kernel, by decide +kernel⟩
abbrev s__law_is_truth : Stmt := topS 24
abbrev N__law_is_truth : List Str := ["actual", "due"]
theorem sc__law_is_truth : FnScope N__law_is_truth ["actual", "due"] (defScope s__law_is_truth) := ⟨rfl, rfl, rfl, by decide +kernel, rfl, by decide +kernel, by decide +kernel⟩
abbrev s__law_is_row : Stmt := topS 25
abbrev N__law_is_row : List Str := ["actual", "due", "k"]
theorem sc__law_is_row : FnScope N__law_is_row ["actual", "due"] (defScope s__law_is_row) := ⟨rfl, rfl, rfl, by decide +kernel, rfl, by decide +kernel, by decide +kernel⟩
abbrev s__law_is_rows : Stmt := topS 26
abbrev N__law_is_rows : List Str := ["actual", "due", "k"]
theorem sc__law_is_rows : FnScope N__law_is_rows ["actual", "due"] (defScope s__law_is_rows) := ⟨rfl, rfl, rfl, by decide +kernel, rfl, by decide +kernel, by decide +kernel⟩
abbrev s__law_partition : Stmt := topS 27
abbrev N__law_partition : List Str := ["bag", "points", "kind", "size", "row", "k", "x"]
theorem sc__law_partition : FnScope N__law_partition ["bag", "points"] (defScope s__law_partition) := ⟨rfl, rfl, rfl, by decide +kernel, rfl, by decide +kernel, by decide +kernel⟩
abbrev s__law_classes : Stmt := topS 28
abbrev N__law_classes : List Str := ["labels", "told", "x", "k"]
theorem sc__law_classes : FnScope N__law_classes ["labels"] (defScope s__law_classes) := ⟨rfl, rfl, rfl, by decide +kernel, rfl, by decide +kernel, by decide +kernel⟩
abbrev s__law_keeping : Stmt := topS 29
abbrev N__law_keeping : List Str := ["bag", "labels", "classes", "image", "used", "one", "free", "at", "order", "k", "x"]
theorem sc__law_keeping : FnScope N__law_keeping ["bag", "labels"] (defScope s__law_keeping) := ⟨rfl, rfl, rfl, by decide +kernel, rfl, by decide +kernel, by decide +kernel⟩
abbrev s__law_moving : Stmt := topS 30
abbrev N__law_moving : List Str := ["bag", "labels", "strict", "kind", "image", "at", "other", "held"]
theorem sc__law_moving : FnScope N__law_moving ["bag", "labels", "strict"] (defScope s__law_moving) := ⟨rfl, rfl, rfl, by decide +kernel, rfl, by decide +kernel, by decide +kernel⟩
abbrev s__law_finer : Stmt := topS 31
abbrev N__law_finer : List Str := ["first", "second", "i", "j"]
theorem sc__law_finer : FnScope N__law_finer ["first", "second"] (defScope s__law_finer) := ⟨rfl, rfl, rfl, by decide +kernel, rfl, by decide +kernel, by decide +kernel⟩
abbrev s__law_meet : Stmt := topS 32
abbrev N__law_meet : List Str := ["first", "second", "row", "i", "j"]
theorem sc__law_meet : FnScope N__law_meet ["first", "second"] (defScope s__law_meet) := ⟨rfl, rfl, rfl, by decide +kernel, rfl, by decide +kernel, by decide +kernel⟩
abbrev s__law_join : Stmt := topS 33
abbrev N__law_join : List Str := ["first", "second", "row", "i", "low", "high", "x"]
theorem sc__law_join : FnScope N__law_join ["first", "second"] (defScope s__law_join) := ⟨rfl, rfl, rfl, by decide +kernel, rfl, by decide +kernel, by decide +kernel⟩
abbrev s__law_is_labels : Stmt := topS 34
abbrev N__law_is_labels : List Str := ["value", "points", "k"]
theorem sc__law_is_labels : FnScope N__law_is_labels ["value", "points"] (defScope s__law_is_labels) := ⟨rfl, rfl, rfl, by decide +kernel, rfl, by decide +kernel, by decide +kernel⟩
abbrev s__law_first_break : Stmt := topS 35
abbrev N__law_first_break : List Str := ["labels", "perms", "k", "i", "j"]
theorem sc__law_first_break : FnScope N__law_first_break ["labels", "perms"] (defScope s__law_first_break) := ⟨rfl, rfl, rfl, by decide +kernel, rfl, by decide +kernel, by decide +kernel⟩
abbrev s__law_pairs_hold : Stmt := topS 36
abbrev N__law_pairs_hold : List Str := ["first", "second", "pair"]
theorem sc__law_pairs_hold : FnScope N__law_pairs_hold ["first", "second"] (defScope s__law_pairs_hold) := ⟨rfl, rfl, rfl, by decide +kernel, rfl, by decide +kernel, by decide +kernel⟩
abbrev s__law_no_classes : Stmt := topS 37
abbrev N__law_no_classes : List Str := ["bag", "told", "points", "kind", "cut", "menu", "at", "odd"]
theorem sc__law_no_classes : FnScope N__law_no_classes ["bag", "told", "points"] (defScope s__law_no_classes) := ⟨rfl, rfl, rfl, by decide +kernel, rfl, by decide +kernel, by decide +kernel⟩
abbrev s__law_refused : Stmt := topS 38
abbrev N__law_refused : List Str := ["value", "points", "e"]
theorem sc__law_refused : FnScope N__law_refused ["value", "points"] (defScope s__law_refused) := ⟨rfl, rfl, rfl, by decide +kernel, rfl, by decide +kernel, by decide +kernel⟩
abbrev s__law_classes_hold : Stmt := topS 39
abbrev N__law_classes_hold : List Str := ["bag", "labels", "points", "classes", "told", "due", "at", "x"]
theorem sc__law_classes_hold : FnScope N__law_classes_hold ["bag", "labels"] (defScope s__law_classes_hold) := ⟨rfl, rfl, rfl, by decide +kernel, rfl, by decide +kernel, by decide +kernel⟩
abbrev s__law_tests_hold : Stmt := topS 40
abbrev N__law_tests_hold : List Str := ["bag", "labels", "points", "greatest", "k", "x", "values", "turn", "at", "other", "menu", "value", "size"]
theorem sc__law_tests_hold : FnScope N__law_tests_hold ["bag", "labels"] (defScope s__law_tests_hold) := ⟨rfl, rfl, rfl, by decide +kernel, rfl, by decide +kernel, by decide +kernel⟩
abbrev s__law_breaks_hold : Stmt := topS 41
abbrev N__law_breaks_hold : List Str := ["labels", "perms", "due", "actual"]
theorem sc__law_breaks_hold : FnScope N__law_breaks_hold ["labels", "perms"] (defScope s__law_breaks_hold) := ⟨rfl, rfl, rfl, by decide +kernel, rfl, by decide +kernel, by decide +kernel⟩
abbrev s_law : Stmt := topS 42
abbrev N_law : List Str := ["script", "bag", "points", "first", "second", "kind", "many", "strict", "perms", "k", "labels"]
theorem sc_law : FnScope N_law ["script"] (defScope s_law) := ⟨rfl, rfl, rfl, by decide +kernel, rfl, by decide +kernel, by decide +kernel⟩
structure Txt (K : PySem.W.Frag) (mg : Str → Option Value) where
  f_is_whole : Addr
  fd_is_whole : FuncData
  d_is_whole : DA K mg "is_whole" s_is_whole ["value"] f_is_whole fd_is_whole
  f_is_index : Addr
  fd_is_index : FuncData
  d_is_index : DA K mg "is_index" s_is_index ["value", "limit"] f_is_index fd_is_index
  f_is_row : Addr
  fd_is_row : FuncData
  d_is_row : DA K mg "is_row" s_is_row ["value", "length"] f_is_row fd_is_row
  f_merged : Addr
  fd_merged : FuncData
  d_merged : DA K mg "merged" s_merged ["labels", "i", "j"] f_merged fd_merged
  f_is_labels : Addr
  fd_is_labels : FuncData
  d_is_labels : DA K mg "is_labels" s_is_labels ["value", "points"] f_is_labels fd_is_labels
  f_classes_of : Addr
  fd_classes_of : FuncData
  d_classes_of : DA K mg "classes_of" s_classes_of ["labels"] f_classes_of fd_classes_of
  f_labels_of : Addr
  fd_labels_of : FuncData
  d_labels_of : DA K mg "labels_of" s_labels_of ["classes", "points"] f_labels_of fd_labels_of
  f_finer : Addr
  fd_finer : FuncData
  d_finer : DA K mg "finer" s_finer ["first", "second"] f_finer fd_finer
  f_meet_labels : Addr
  fd_meet_labels : FuncData
  d_meet_labels : DA K mg "meet_labels" s_meet_labels ["first", "second"] f_meet_labels fd_meet_labels
  f_join_labels : Addr
  fd_join_labels : FuncData
  d_join_labels : DA K mg "join_labels" s_join_labels ["first", "second"] f_join_labels fd_join_labels
  f_broken : Addr
  fd_broken : FuncData
  d_broken : DA K mg "broken" s_broken ["labels", "perms"] f_broken fd_broken
  f__law_cell : Addr
  fd__law_cell : FuncData
  d__law_cell : DA K mg "_law_cell" s__law_cell ["script", "k"] f__law_cell fd__law_cell
  f__law_bag : Addr
  fd__law_bag : FuncData
  d__law_bag : DA K mg "_law_bag" s__law_bag ["script", "k"] f__law_bag fd__law_bag
  f__law_take : Addr
  fd__law_take : FuncData
  d__law_take : DA K mg "_law_take" s__law_take ["bag", "size"] f__law_take fd__law_take
  f__law_shuffled : Addr
  fd__law_shuffled : FuncData
  d__law_shuffled : DA K mg "_law_shuffled" s__law_shuffled ["bag", "many"] f__law_shuffled fd__law_shuffled
  f__law_is_whole : Addr
  fd__law_is_whole : FuncData
  d__law_is_whole : DA K mg "_law_is_whole" s__law_is_whole ["value"] f__law_is_whole fd__law_is_whole
  f__law_is_truth : Addr
  fd__law_is_truth : FuncData
  d__law_is_truth : DA K mg "_law_is_truth" s__law_is_truth ["actual", "due"] f__law_is_truth fd__law_is_truth
  f__law_is_row : Addr
  fd__law_is_row : FuncData
  d__law_is_row : DA K mg "_law_is_row" s__law_is_row ["actual", "due"] f__law_is_row fd__law_is_row
  f__law_is_rows : Addr
  fd__law_is_rows : FuncData
  d__law_is_rows : DA K mg "_law_is_rows" s__law_is_rows ["actual", "due"] f__law_is_rows fd__law_is_rows
  f__law_partition : Addr
  fd__law_partition : FuncData
  d__law_partition : DA K mg "_law_partition" s__law_partition ["bag", "points"] f__law_partition fd__law_partition
  f__law_classes : Addr
  fd__law_classes : FuncData
  d__law_classes : DA K mg "_law_classes" s__law_classes ["labels"] f__law_classes fd__law_classes
  f__law_keeping : Addr
  fd__law_keeping : FuncData
  d__law_keeping : DA K mg "_law_keeping" s__law_keeping ["bag", "labels"] f__law_keeping fd__law_keeping
  f__law_moving : Addr
  fd__law_moving : FuncData
  d__law_moving : DA K mg "_law_moving" s__law_moving ["bag", "labels", "strict"] f__law_moving fd__law_moving
  f__law_finer : Addr
  fd__law_finer : FuncData
  d__law_finer : DA K mg "_law_finer" s__law_finer ["first", "second"] f__law_finer fd__law_finer
  f__law_meet : Addr
  fd__law_meet : FuncData
  d__law_meet : DA K mg "_law_meet" s__law_meet ["first", "second"] f__law_meet fd__law_meet
  f__law_join : Addr
  fd__law_join : FuncData
  d__law_join : DA K mg "_law_join" s__law_join ["first", "second"] f__law_join fd__law_join
  f__law_is_labels : Addr
  fd__law_is_labels : FuncData
  d__law_is_labels : DA K mg "_law_is_labels" s__law_is_labels ["value", "points"] f__law_is_labels fd__law_is_labels
  f__law_first_break : Addr
  fd__law_first_break : FuncData
  d__law_first_break : DA K mg "_law_first_break" s__law_first_break ["labels", "perms"] f__law_first_break fd__law_first_break
  f__law_pairs_hold : Addr
  fd__law_pairs_hold : FuncData
  d__law_pairs_hold : DA K mg "_law_pairs_hold" s__law_pairs_hold ["first", "second"] f__law_pairs_hold fd__law_pairs_hold
  f__law_no_classes : Addr
  fd__law_no_classes : FuncData
  d__law_no_classes : DA K mg "_law_no_classes" s__law_no_classes ["bag", "told", "points"] f__law_no_classes fd__law_no_classes
  f__law_refused : Addr
  fd__law_refused : FuncData
  d__law_refused : DA K mg "_law_refused" s__law_refused ["value", "points"] f__law_refused fd__law_refused
  f__law_classes_hold : Addr
  fd__law_classes_hold : FuncData
  d__law_classes_hold : DA K mg "_law_classes_hold" s__law_classes_hold ["bag", "labels"] f__law_classes_hold fd__law_classes_hold
  f__law_tests_hold : Addr
  fd__law_tests_hold : FuncData
  d__law_tests_hold : DA K mg "_law_tests_hold" s__law_tests_hold ["bag", "labels"] f__law_tests_hold fd__law_tests_hold
  f__law_breaks_hold : Addr
  fd__law_breaks_hold : FuncData
  d__law_breaks_hold : DA K mg "_law_breaks_hold" s__law_breaks_hold ["labels", "perms"] f__law_breaks_hold fd__law_breaks_hold
  f_law : Addr
  fd_law : FuncData
  d_law : DA K mg "law" s_law ["script"] f_law fd_law
  b_int : mg "int" = none
  b_isinstance : mg "isinstance" = none
  b_bool : mg "bool" = none
  b_tuple : mg "tuple" = none
  b_len : mg "len" = none
  b_min : mg "min" = none
  b_max : mg "max" = none
  b_enumerate : mg "enumerate" = none
  b_list : mg "list" = none
  b_range : mg "range" = none
  b_all : mg "all" = none
  b_sum : mg "sum" = none
  b_ValueError : mg "ValueError" = none
  b_repr : mg "repr" = none
  b_reversed : mg "reversed" = none
  x_InvalidLabels : Addr
  xi_InvalidLabels : Addr
  xd_InvalidLabels : FuncData
  e_InvalidLabels : ErrC P0 K mg "InvalidLabels" x_InvalidLabels xi_InvalidLabels xd_InvalidLabels "self" "value"
  y_InvalidLabels : Addr
  my_InvalidLabels : mg "InvalidLabels" = some (.ref y_InvalidLabels)
  y_TumblerError : Addr
  my_TumblerError : mg "TumblerError" = some (.ref y_TumblerError)
  y_InvalidPerm : Addr
  my_InvalidPerm : mg "InvalidPerm" = some (.ref y_InvalidPerm)
  y_InvalidCycles : Addr
  my_InvalidCycles : mg "InvalidCycles" = some (.ref y_InvalidCycles)
  ex_InvalidLabels_InvalidLabels : PySem.W.exmOne K (.ref x_InvalidLabels) (.ref y_InvalidLabels) = some true
  ki_InvalidLabels_TumblerError : PySem.W.kitOne K (.ref x_InvalidLabels) (.ref y_TumblerError) = some true
  ki_InvalidLabels_ValueError : PySem.W.kitOne K (.ref x_InvalidLabels) (.type "ValueError") = some true
  ki_InvalidLabels_InvalidPerm : PySem.W.kitOne K (.ref x_InvalidLabels) (.ref y_InvalidPerm) = some false
  ki_InvalidLabels_InvalidCycles : PySem.W.kitOne K (.ref x_InvalidLabels) (.ref y_InvalidCycles) = some false
section
variable {w : World} {K : PySem.W.Frag} {mg : Str → Option Value} {base : Heap}
theorem w_is_whole (T : Txt K mg) : FnOk P0 w K mg base (L2.CX P0 w) 1 T.f_is_whole T.fd_is_whole ["value"] (spF K mg 1 c_is_whole) := by
  refine fn_ok (n := 1) (m := m_is_whole) T.d_is_whole.fn sc_is_whole rfl rfl fun cdv A outer s H E hr => ?_
  have tk : Takes (cxOf (L2.CX P0 w) P0 w K mg base N_is_whole "is_whole" (defScope s_is_whole) T.f_is_whole cdv A outer s H E) (fun cls d _ H => E cls d H) := takes_of rfl rfl rfl rfl
  have po := passes_of (X := cxOf (L2.CX P0 w) P0 w K mg base N_is_whole "is_whole" (defScope s_is_whole) T.f_is_whole cdv A outer s H E) rfl
  exact (mb_one (ms_ret (me_and (me_callB call_isi cs_isi T.b_isinstance (ma_cons (me_var 0) (ma_cons (me_ty T.b_int) ma_nil))) (me_one (me_not (me_callB call_isi cs_isi T.b_isinstance (ma_cons (me_var 0) (ma_cons (me_ty T.b_bool) ma_nil))))))))
theorem w_is_index (T : Txt K mg) : FnOk P0 w K mg base (L2.CX P0 w) 2 T.f_is_index T.fd_is_index ["value", "limit"] (spF K mg 2 c_is_index) := by
  refine fn_ok (n := 2) (m := m_is_index) T.d_is_index.fn sc_is_index rfl rfl fun cdv A outer s H E hr => ?_
  have tk : Takes (cxOf (L2.CX P0 w) P0 w K mg base N_is_index "is_index" (defScope s_is_index) T.f_is_index cdv A outer s H E) (fun cls d _ H => E cls d H) := takes_of rfl rfl rfl rfl
  have po := passes_of (X := cxOf (L2.CX P0 w) P0 w K mg base N_is_index "is_index" (defScope s_is_index) T.f_is_index cdv A outer s H E) rfl
  exact (mb_one (ms_ret (me_and (me_call (w_is_whole T) (hr.mono (by decide)) T.d_is_whole.mgf T.d_is_whole.fn.kp T.d_is_whole.bd tk (ma_cons (me_var 0) ma_nil)) (me_one (me_chain op_leAll os_le (op_ltAll hr.units0) os_lt me_int (me_var 0) (me_var 1))))))
theorem w_is_row (T : Txt K mg) : FnOk P0 w K mg base (L2.CX P0 w) 1 T.f_is_row T.fd_is_row ["value", "length"] (spF K mg 2 c_is_row) := by
  refine fn_ok (n := 2) (m := m_is_row) T.d_is_row.fn sc_is_row rfl rfl fun cdv A outer s H E hr => ?_
  have tk : Takes (cxOf (L2.CX P0 w) P0 w K mg base N_is_row "is_row" (defScope s_is_row) T.f_is_row cdv A outer s H E) (fun cls d _ H => E cls d H) := takes_of rfl rfl rfl rfl
  have po := passes_of (X := cxOf (L2.CX P0 w) P0 w K mg base N_is_row "is_row" (defScope s_is_row) T.f_is_row cdv A outer s H E) rfl
  exact (mb_one (ms_ret (me_and (me_callB call_isi cs_isi T.b_isinstance (ma_cons (me_var 0) (ma_cons (me_ty T.b_tuple) ma_nil))) (me_one (me_cmp (op_eqD hr.units) os_eq (me_callB cl_len cs_lenAll T.b_len (ma_cons (me_var 0) ma_nil)) (me_var 1) (nomark _))))))
theorem w_merged (T : Txt K mg) : FnOk P0 w K mg base (L2.CX P0 w) 1 T.f_merged T.fd_merged ["labels", "i", "j"] (spF K mg 3 c_merged) := by
  refine fn_ok (n := 6) (m := m_merged) T.d_merged.fn sc_merged rfl rfl fun cdv A outer s H E hr => ?_
  have tk : Takes (cxOf (L2.CX P0 w) P0 w K mg base N_merged "merged" (defScope s_merged) T.f_merged cdv A outer s H E) (fun cls d _ H => E cls d H) := takes_of rfl rfl rfl rfl
  have po := passes_of (X := cxOf (L2.CX P0 w) P0 w K mg base N_merged "merged" (defScope s_merged) T.f_merged cdv A outer s H E) rfl
  exact (mb_cons (ms_set (i := 3) sc_merged.nd rfl (.inr rfl) (me_callB (call_min2 rfl) cs_min2 T.b_min (ma_cons (me_ix ix_seq os_ix (me_var 0) (me_var 1)) (ma_cons (me_ix ix_seq os_ix (me_var 0) (me_var 2)) ma_nil))))
    (mb_cons (ms_set (i := 4) sc_merged.nd rfl (.inr rfl) (me_callB (call_max2 rfl) cs_max2 T.b_max (ma_cons (me_ix ix_seq os_ix (me_var 0) (me_var 1)) (ma_cons (me_ix ix_seq os_ix (me_var 0) (me_var 2)) ma_nil))))
    (mb_cons (ms_if (mt_cmp (op_eqD hr.units) os_eq (me_var 3) (me_var 4) (nomark _))
      (mb_one (ms_ret (me_var 0)))
      mb_nil)
    (mb_one (ms_ret (me_callTy call_tuple_of cs_tuple T.b_tuple (ma_cons (me_lc rfl sc_merged.nd (mi_val (me_var 0)) (blkOk_by (own := [("label", 5)]) (by show blkC N_merged (defScope s_merged) _ _ = true; decide +kernel)) (fun _ _ _ _ _ => (mgc_var sc_merged.nd rfl (.inl rfl) (by decide))) (fun _ _ _ _ _ => mts_nil) (fun _ _ _ _ _ => (me_if (mt_cmp (op_eqD hr.units) os_eq (me_var 5) (me_var 4) (nomark _)) (me_var 3) (me_var 5)))) ma_nil)))))))
theorem w_is_labels (T : Txt K mg) : FnOk P0 w K mg base (L2.CX P0 w) 3 T.f_is_labels T.fd_is_labels ["value", "points"] (spF K mg 2 c_is_labels) := by
  refine fn_ok (n := 4) (m := m_is_labels) T.d_is_labels.fn sc_is_labels rfl rfl fun cdv A outer s H E hr => ?_
  have tk : Takes (cxOf (L2.CX P0 w) P0 w K mg base N_is_labels "is_labels" (defScope s_is_labels) T.f_is_labels cdv A outer s H E) (fun cls d _ H => E cls d H) := takes_of rfl rfl rfl rfl
  have po := passes_of (X := cxOf (L2.CX P0 w) P0 w K mg base N_is_labels "is_labels" (defScope s_is_labels) T.f_is_labels cdv A outer s H E) rfl
  exact (mb_cons (ms_if (mt_not (mt_truth ts_truth (me_call (w_is_row T) (hr.mono (by decide)) T.d_is_row.mgf T.d_is_row.fn.kp T.d_is_row.bd tk (ma_cons (me_var 0) (ma_cons (me_var 1) ma_nil)))))
      (mb_one (ms_ret me_bl))
      mb_nil)
    (mb_cons (ms_for po rfl (mi_enum2 T.b_enumerate (me_var 0)) (mg_tup rfl (mgs_cons (mg_var sc_is_labels.nd rfl (.inl rfl)) (mgs_cons (mg_var sc_is_labels.nd rfl (.inl rfl)) mgs_nil)))
      (mb_one (ms_if (MW.mt (mw_or (mt_not (mt_truth ts_truth (me_call (w_is_index T) (hr.mono (by decide)) T.d_is_index.mgf T.d_is_index.fn.kp T.d_is_index.bd tk (ma_cons (me_var 3) (ma_cons (me_op op_addAll os_add (me_var 2) me_int) ma_nil))))) (mw_or1 (mt_cmp (op_neD hr.units) os_ne (me_ix ix_seq os_ix (me_var 0) (me_var 3)) (me_var 3) (nomark _)))))
      (mb_one (ms_ret me_bl))
      mb_nil)))
    (mb_one (ms_ret me_bl))))
theorem w_classes_of (T : Txt K mg) : FnOk P0 w K mg base (L2.CX P0 w) 1 T.f_classes_of T.fd_classes_of ["labels"] (spF K mg 1 c_classes_of) := by
  refine fn_ok (n := 5) (m := m_classes_of) T.d_classes_of.fn sc_classes_of rfl rfl fun cdv A outer s H E hr => ?_
  have tk : Takes (cxOf (L2.CX P0 w) P0 w K mg base N_classes_of "classes_of" (defScope s_classes_of) T.f_classes_of cdv A outer s H E) (fun cls d _ H => E cls d H) := takes_of rfl rfl rfl rfl
  have po := passes_of (X := cxOf (L2.CX P0 w) P0 w K mg base N_classes_of "classes_of" (defScope s_classes_of) T.f_classes_of cdv A outer s H E) rfl
  exact (mb_cons (ms_set (i := 1) sc_classes_of.nd rfl (.inl rfl) me_dict)
    (mb_cons (ms_for po rfl (mi_enum2 T.b_enumerate (me_var 0)) (mg_tup rfl (mgs_cons (mg_var sc_classes_of.nd rfl (.inl rfl)) (mgs_cons (mg_var sc_classes_of.nd rfl (.inl rfl)) mgs_nil)))
      (mb_cons (ms_if (mt_dnotin (hu_of hr) (me_var 3) (me_var 1))
      (mb_one (ms_asg (me_lst ma_nil) (mg_sub (set_dict (hu_of hr)) ss_dict (me_var 1) (me_var 3))))
      mb_nil)
    (mb_one (ms_expr (me_meth PySem.F.plainAttrs_list PySem.F.slot_list_append PySem.F.type_list_append mt_append ms_append (me_dget (hu_of hr) (me_var 1) (me_var 3)) (ma_cons (me_var 2) ma_nil))))))
    (mb_one (ms_ret (me_callTy call_tuple_of cs_tuple T.b_tuple (ma_cons (me_lock (i := 1) (me_lc rfl sc_classes_of.nd (mi_dvals (me_var 1)) (blkOk_by (own := [("row", 4)]) (by show blkC N_classes_of (defScope s_classes_of) _ _ = true; decide +kernel)) (fun _ _ _ _ _ => (mgc_var sc_classes_of.nd rfl (.inl rfl) (by decide))) (fun _ _ _ _ _ => mts_nil) (fun _ _ _ _ _ => (me_callTy call_tuple_of cs_tuple T.b_tuple (ma_cons (me_var 4) ma_nil))))) ma_nil))))))
theorem w_labels_of (T : Txt K mg) : FnOk P0 w K mg base (L2.CX P0 w) 3 T.f_labels_of T.fd_labels_of ["classes", "points"] (spF K mg 2 c_labels_of) := by
  refine fn_ok (n := 7) (m := m_labels_of) T.d_labels_of.fn sc_labels_of rfl rfl fun cdv A outer s H E hr => ?_
  have tk : Takes (cxOf (L2.CX P0 w) P0 w K mg base N_labels_of "labels_of" (defScope s_labels_of) T.f_labels_of cdv A outer s H E) (fun cls d _ H => E cls d H) := takes_of rfl rfl rfl rfl
  have po := passes_of (X := cxOf (L2.CX P0 w) P0 w K mg base N_labels_of "labels_of" (defScope s_labels_of) T.f_labels_of cdv A outer s H E) rfl
  exact (mb_cons (ms_if (mt_not (mt_truth ts_truth (me_callB call_isi cs_isi T.b_isinstance (ma_cons (me_var 0) (ma_cons (me_ty T.b_tuple) ma_nil)))))
      (mb_one (ms_raiseE T.e_InvalidLabels rfl tk (hr.mono (by decide)) (ma_cons (me_var 0) ma_nil)))
      mb_nil)
    (mb_cons (ms_set (i := 2) sc_labels_of.nd rfl (.inl rfl) (me_listRg1 rfl T.b_list T.b_range (me_var 1)))
    (mb_cons (ms_set (i := 3) sc_labels_of.nd rfl (.inl rfl) (me_op op_mulA os_mulA (me_lst (ma_cons me_bl ma_nil)) (me_var 1)))
    (mb_cons (ms_for po rfl (mi_val (me_var 0)) (mg_var sc_labels_of.nd rfl (.inl rfl))
      (mb_cons (ms_if (MW.mt (mw_or (mt_not (mt_truth ts_truth (me_callB call_isi cs_isi T.b_isinstance (ma_cons (me_var 4) (ma_cons (me_ty T.b_tuple) ma_nil))))) (mw_or1 (mt_cmp (op_eqD hr.units) os_eq (me_callB cl_len cs_lenAll T.b_len (ma_cons (me_var 4) ma_nil)) me_int (nomark _)))))
      (mb_one (ms_raiseE T.e_InvalidLabels rfl tk (hr.mono (by decide)) (ma_cons (me_var 0) ma_nil)))
      mb_nil)
    (mb_cons (ms_for po rfl (mi_val (me_var 4)) (mg_var sc_labels_of.nd rfl (.inl rfl))
      (mb_cons (ms_if (MW.mt (mw_or (mt_not (mt_truth ts_truth (me_call (w_is_index T) (hr.mono (by decide)) T.d_is_index.mgf T.d_is_index.fn.kp T.d_is_index.bd tk (ma_cons (me_var 5) (ma_cons (me_var 1) ma_nil))))) (mw_or1 (mt_truth ts_truth (me_ix ix_seq os_ix (me_var 3) (me_var 5))))))
      (mb_one (ms_raiseE T.e_InvalidLabels rfl tk (hr.mono (by decide)) (ma_cons (me_var 0) ma_nil)))
      mb_nil)
    (mb_one (ms_asg me_bl (mg_sub set_list ss_list (me_var 3) (me_var 5))))))
    (mb_cons (ms_set (i := 6) sc_labels_of.nd rfl (.inl rfl) (me_callB (cr_minA rfl (units65 hr)) cs_minA T.b_min (ma_cons (me_var 4) ma_nil)))
    (mb_one (ms_for po rfl (mi_val (me_var 4)) (mg_var sc_labels_of.nd rfl (.inl rfl))
      (mb_one (ms_asg (me_var 6) (mg_sub set_list ss_list (me_var 2) (me_var 5))))))))))
    (mb_one (ms_ret (me_callTy call_tuple_of cs_tuple T.b_tuple (ma_cons (me_var 2) ma_nil))))))))
theorem w_finer (T : Txt K mg) : FnOk P0 w K mg base (L2.CX P0 w) 1 T.f_finer T.fd_finer ["first", "second"] (spF K mg 2 c_finer) := by
  refine fn_ok (n := 4) (m := m_finer) T.d_finer.fn sc_finer rfl rfl fun cdv A outer s H E hr => ?_
  have tk : Takes (cxOf (L2.CX P0 w) P0 w K mg base N_finer "finer" (defScope s_finer) T.f_finer cdv A outer s H E) (fun cls d _ H => E cls d H) := takes_of rfl rfl rfl rfl
  have po := passes_of (X := cxOf (L2.CX P0 w) P0 w K mg base N_finer "finer" (defScope s_finer) T.f_finer cdv A outer s H E) rfl
  exact (mb_one (ms_ret (me_callB (cr_all rfl) cs_all T.b_all (ma_cons (me_lc rfl sc_finer.nd (mi_enum2 T.b_enumerate (me_var 0)) (blkOk_by (own := [("point", 2), ("label", 3)]) (by show blkC N_finer (defScope s_finer) _ _ = true; decide +kernel)) (fun _ _ _ _ _ => (mgc_tupK (K := K) rfl (mgcs_cons (mgc_var sc_finer.nd rfl (.inl rfl) (by decide)) (mgcs_cons (mgc_var sc_finer.nd rfl (.inl rfl) (by decide)) mgcs_nil (mono := mono_name)) (mono := mono_name)))) (fun _ _ _ _ _ => mts_nil) (fun _ _ _ _ _ => (me_cmp (op_eqD hr.units) os_eq (me_ix ix_seq os_ix (me_var 1) (me_var 2)) (me_ix ix_seq os_ix (me_var 1) (me_var 3)) (nomark _)))) ma_nil))))
theorem w_meet_labels (T : Txt K mg) : FnOk P0 w K mg base (L2.CX P0 w) 1 T.f_meet_labels T.fd_meet_labels ["first", "second"] (spF K mg 2 c_meet_labels) := by
  refine fn_ok (n := 7) (m := m_meet_labels) T.d_meet_labels.fn sc_meet_labels rfl rfl fun cdv A outer s H E hr => ?_
  have tk : Takes (cxOf (L2.CX P0 w) P0 w K mg base N_meet_labels "meet_labels" (defScope s_meet_labels) T.f_meet_labels cdv A outer s H E) (fun cls d _ H => E cls d H) := takes_of rfl rfl rfl rfl
  have po := passes_of (X := cxOf (L2.CX P0 w) P0 w K mg base N_meet_labels "meet_labels" (defScope s_meet_labels) T.f_meet_labels cdv A outer s H E) rfl
  exact (mb_cons (ms_set (i := 2) sc_meet_labels.nd rfl (.inl rfl) me_dictT)
    (mb_cons (ms_set (i := 3) sc_meet_labels.nd rfl (.inl rfl) (me_lst ma_nil))
    (mb_cons (ms_for po rfl (mi_enum2 T.b_enumerate (me_var 0)) (mg_tup rfl (mgs_cons (mg_var sc_meet_labels.nd rfl (.inl rfl)) (mgs_cons (mg_var sc_meet_labels.nd rfl (.inl rfl)) mgs_nil)))
      (mb_cons (ms_set (i := 6) sc_meet_labels.nd rfl (.inl rfl) (me_tup (ma_cons (me_var 5) (ma_cons (me_ix ix_seq os_ix (me_var 1) (me_var 4)) ma_nil))))
    (mb_cons (ms_if (mt_tnotin (hu_of hr) (me_var 6) (me_var 2))
      (mb_one (ms_asg (me_var 4) (mg_sub (set_dict (hu_of hr)) ss_dictT (me_var 2) (me_var 6))))
      mb_nil)
    (mb_one (ms_expr (me_meth PySem.F.plainAttrs_list PySem.F.slot_list_append PySem.F.type_list_append mt_append ms_append (me_var 3) (ma_cons (me_tget (hu_of hr) (me_var 2) (me_var 6)) ma_nil)))))))
    (mb_one (ms_ret (me_callTy call_tuple_of cs_tuple T.b_tuple (ma_cons (me_var 3) ma_nil)))))))
theorem w_join_labels (T : Txt K mg) : FnOk P0 w K mg base (L2.CX P0 w) 2 T.f_join_labels T.fd_join_labels ["first", "second"] (spF K mg 2 c_join_labels) := by
  refine fn_ok (n := 5) (m := m_join_labels) T.d_join_labels.fn sc_join_labels rfl rfl fun cdv A outer s H E hr => ?_
  have tk : Takes (cxOf (L2.CX P0 w) P0 w K mg base N_join_labels "join_labels" (defScope s_join_labels) T.f_join_labels cdv A outer s H E) (fun cls d _ H => E cls d H) := takes_of rfl rfl rfl rfl
  have po := passes_of (X := cxOf (L2.CX P0 w) P0 w K mg base N_join_labels "join_labels" (defScope s_join_labels) T.f_join_labels cdv A outer s H E) rfl
  exact (mb_cons (ms_set (i := 2) sc_join_labels.nd rfl (.inl rfl) (me_var 0))
    (mb_cons (ms_for po rfl (mi_enum2 T.b_enumerate (me_var 1)) (mg_tup rfl (mgs_cons (mg_var sc_join_labels.nd rfl (.inl rfl)) (mgs_cons (mg_var sc_join_labels.nd rfl (.inl rfl)) mgs_nil)))
      (mb_one (ms_set (i := 2) sc_join_labels.nd rfl (.inl rfl) (me_call (w_merged T) (hr.mono (by decide)) T.d_merged.mgf T.d_merged.fn.kp T.d_merged.bd tk (ma_cons (me_var 2) (ma_cons (me_var 3) (ma_cons (me_var 4) ma_nil)))))))
    (mb_one (ms_ret (me_var 2)))))
theorem w_broken (T : Txt K mg) : FnOk P0 w K mg base (L2.CX P0 w) 1 T.f_broken T.fd_broken ["labels", "perms"] (spF K mg 2 c_broken) := by
  refine fn_ok (n := 9) (m := m_broken) T.d_broken.fn sc_broken rfl rfl fun cdv A outer s H E hr => ?_
  have tk : Takes (cxOf (L2.CX P0 w) P0 w K mg base N_broken "broken" (defScope s_broken) T.f_broken cdv A outer s H E) (fun cls d _ H => E cls d H) := takes_of rfl rfl rfl rfl
  have po := passes_of (X := cxOf (L2.CX P0 w) P0 w K mg base N_broken "broken" (defScope s_broken) T.f_broken cdv A outer s H E) rfl
  exact (mb_cons (ms_set (i := 2) sc_broken.nd rfl (.inl rfl) (me_callB cl_len cs_lenAll T.b_len (ma_cons (me_var 0) ma_nil)))
    (mb_cons (ms_for po rfl (mi_enum2 T.b_enumerate (me_var 1)) (mg_tup rfl (mgs_cons (mg_var sc_broken.nd rfl (.inl rfl)) (mgs_cons (mg_var sc_broken.nd rfl (.inl rfl)) mgs_nil)))
      (mb_cons (ms_setLc (i := 5) rfl sc_broken.nd rfl rfl (sw_true rfl rfl rfl (by decide +kernel)) (mi_val (me_var 4)) (blkOk_by (own := [("point", 8)]) (by show blkC N_broken (defScope s_broken) _ _ = true; decide +kernel)) (fun _ _ _ _ _ => (mgc_var sc_broken.nd rfl (.inl rfl) (by decide))) (fun _ _ _ _ _ => mts_nil) (fun _ _ _ _ _ => (me_ix ix_seq os_ix (me_var 0) (me_var 8))))
    (mb_one (ms_for po rfl (mi_range1 T.b_range (ma_cons (me_var 2) ma_nil)) (mg_var sc_broken.nd rfl (.inl rfl))
      (mb_one (ms_for po rfl (mi_range2 T.b_range (ma_cons (me_op op_addAll os_add (me_var 6) me_int) (ma_cons (me_var 2) ma_nil))) (mg_var sc_broken.nd rfl (.inl rfl))
      (mb_one (ms_if (MW.mt (mw_and (mt_cmp (op_eqD hr.units) os_eq (me_ix ix_seq os_ix (me_var 0) (me_var 6)) (me_ix ix_seq os_ix (me_var 0) (me_var 7)) (nomark _)) (mw_and1 (mt_cmp (op_neD hr.units) os_ne (me_ix ix_seq os_ix (me_var 5) (me_var 6)) (me_ix ix_seq os_ix (me_var 5) (me_var 7)) (nomark _)))))
      (mb_one (ms_ret (me_tup (ma_cons (me_var 3) (ma_cons (me_var 6) (ma_cons (me_var 7) ma_nil))))))
      mb_nil))))))))
    (mb_one (ms_ret me_non))))
theorem w__law_cell (T : Txt K mg) : FnOk P0 w K mg base (L2.CX P0 w) 1 T.f__law_cell T.fd__law_cell ["script", "k"] (spF K mg 2 c__law_cell) := by
  refine fn_ok (n := 3) (m := m__law_cell) T.d__law_cell.fn sc__law_cell rfl rfl fun cdv A outer s H E hr => ?_
  have tk : Takes (cxOf (L2.CX P0 w) P0 w K mg base N__law_cell "_law_cell" (defScope s__law_cell) T.f__law_cell cdv A outer s H E) (fun cls d _ H => E cls d H) := takes_of rfl rfl rfl rfl
  have po := passes_of (X := cxOf (L2.CX P0 w) P0 w K mg base N__law_cell "_law_cell" (defScope s__law_cell) T.f__law_cell cdv A outer s H E) rfl
  exact (mb_cons (ms_set (i := 2) sc__law_cell.nd rfl (.inl rfl) (me_slice (me_var 0) mo_none (mo_some me_int)))
    (mb_cons (ms_if (mt_cmp (op_ltAll hr.units0) os_lt (me_var 1) (me_callB cl_len cs_lenAll T.b_len (ma_cons (me_var 2) ma_nil)) (nomark _))
      (mb_one (ms_ret (me_op op_mod os_mod (me_callTy call_int1 cs_int T.b_int (ma_cons (me_ix ix_seq os_ix (me_var 2) (me_var 1)) ma_nil)) (me_op op_powB os_powB me_int me_int))))
      mb_nil)
    (mb_one (ms_ret (me_op op_mod os_mod (me_callTy call_int1 cs_int T.b_int (ma_cons (me_op op_addAll os_add (me_op op_mulA os_mulA (me_op op_mod os_mod (me_callTy call_int1 cs_int T.b_int (ma_cons (me_callB (cr_sum rfl) cs_sum T.b_sum (ma_cons (me_var 2) ma_nil)) ma_nil)) me_int) me_int) (me_op op_mulA os_mulA me_int (me_var 1))) ma_nil)) (me_op op_powB os_powB me_int me_int))))))
theorem w__law_bag (T : Txt K mg) : FnOk P0 w K mg base (L2.CX P0 w) 2 T.f__law_bag T.fd__law_bag ["script", "k"] (spF K mg 2 c__law_bag) := by
  refine fn_ok (n := 3) (m := m__law_bag) T.d__law_bag.fn sc__law_bag rfl rfl fun cdv A outer s H E hr => ?_
  have tk : Takes (cxOf (L2.CX P0 w) P0 w K mg base N__law_bag "_law_bag" (defScope s__law_bag) T.f__law_bag cdv A outer s H E) (fun cls d _ H => E cls d H) := takes_of rfl rfl rfl rfl
  have po := passes_of (X := cxOf (L2.CX P0 w) P0 w K mg base N__law_bag "_law_bag" (defScope s__law_bag) T.f__law_bag cdv A outer s H E) rfl
  exact (mb_cons (ms_set (i := 2) sc__law_bag.nd rfl (.inl rfl) (me_call (w__law_cell T) (hr.mono (by decide)) T.d__law_cell.mgf T.d__law_cell.fn.kp T.d__law_cell.bd tk (ma_cons (me_var 0) (ma_cons (me_var 1) ma_nil))))
    (mb_one (ms_ret (me_lst (ma_cons (me_var 2) (ma_cons (me_var 2) (ma_cons (me_op op_mulA os_mulA me_int (me_var 1)) ma_nil)))))))
theorem w__law_take (T : Txt K mg) : FnOk P0 w K mg base (L2.CX P0 w) 1 T.f__law_take T.fd__law_take ["bag", "size"] (spF K mg 2 c__law_take) := by
  refine fn_ok (n := 4) (m := m__law_take) T.d__law_take.fn sc__law_take rfl rfl fun cdv A outer s H E hr => ?_
  have tk : Takes (cxOf (L2.CX P0 w) P0 w K mg base N__law_take "_law_take" (defScope s__law_take) T.f__law_take cdv A outer s H E) (fun cls d _ H => E cls d H) := takes_of rfl rfl rfl rfl
  have po := passes_of (X := cxOf (L2.CX P0 w) P0 w K mg base N__law_take "_law_take" (defScope s__law_take) T.f__law_take cdv A outer s H E) rfl
  exact (mb_cons (ms_asg (me_op op_addAll os_add (me_ix ix_seq os_ix (me_var 0) me_int) me_int) (mg_sub set_list ss_list (me_var 0) me_int))
    (mb_cons (ms_if (MW.mt (mw_and (mt_cmp op_ge os_ge (me_ix ix_seq os_ix (me_var 0) me_int) (me_op op_powB os_powB me_int me_int) (nomark _)) (mw_and1 (mt_cmp op_gt os_gt (me_ix ix_seq os_ix (me_var 0) me_int) me_int (nomark _)))))
      (mb_cons (ms_set (i := 2) sc__law_take.nd rfl (.inl rfl) (me_op op_mod os_mod (me_callTy call_int1 cs_int T.b_int (ma_cons (me_ix ix_seq os_ix (me_var 0) me_int) ma_nil)) (me_var 1)))
    (mb_cons (ms_asg (me_op op_fdivW os_div (me_ix ix_seq os_ix (me_var 0) me_int) (me_var 1)) (mg_sub set_list ss_list (me_var 0) me_int))
    (mb_one (ms_ret (me_var 2)))))
      mb_nil)
    (mb_cons (ms_set (i := 3) sc__law_take.nd rfl (.inl rfl) (me_op op_mod os_mod (me_callTy call_int1 cs_int T.b_int (ma_cons (me_op op_mulA os_mulA (me_op op_addAll os_add (me_ix ix_seq os_ix (me_var 0) me_int) (me_op op_mulA os_mulA me_int (me_ix ix_seq os_ix (me_var 0) me_int))) me_int) ma_nil)) me_int))
    (mb_cons (ms_set (i := 3) sc__law_take.nd rfl (.inl rfl) (me_op op_mod os_mod (me_callTy call_int1 cs_int T.b_int (ma_cons (me_op op_mulA os_mulA (me_op op_addAll os_add (me_op op_fdivW os_div (me_var 3) me_int) (me_op op_mulA os_mulA me_int (me_ix ix_seq os_ix (me_var 0) me_int))) me_int) ma_nil)) me_int))
    (mb_one (ms_ret (me_op op_mod os_mod (me_callTy call_int1 cs_int T.b_int (ma_cons (me_op op_fdivW os_div (me_var 3) me_int) ma_nil)) (me_var 1))))))))
theorem w__law_shuffled (T : Txt K mg) : FnOk P0 w K mg base (L2.CX P0 w) 2 T.f__law_shuffled T.fd__law_shuffled ["bag", "many"] (spF K mg 2 c__law_shuffled) := by
  refine fn_ok (n := 6) (m := m__law_shuffled) T.d__law_shuffled.fn sc__law_shuffled rfl rfl fun cdv A outer s H E hr => ?_
  have tk : Takes (cxOf (L2.CX P0 w) P0 w K mg base N__law_shuffled "_law_shuffled" (defScope s__law_shuffled) T.f__law_shuffled cdv A outer s H E) (fun cls d _ H => E cls d H) := takes_of rfl rfl rfl rfl
  have po := passes_of (X := cxOf (L2.CX P0 w) P0 w K mg base N__law_shuffled "_law_shuffled" (defScope s__law_shuffled) T.f__law_shuffled cdv A outer s H E) rfl
  exact (mb_cons (ms_set (i := 2) sc__law_shuffled.nd rfl (.inl rfl) (me_listRg1 rfl T.b_list T.b_range (me_var 1)))
    (mb_cons (ms_for po rfl (mi_range1 T.b_range (ma_cons (me_op op_sub os_sub (me_var 1) me_int) ma_nil)) (mg_var sc__law_shuffled.nd rfl (.inl rfl))
      (mb_cons (ms_set (i := 4) sc__law_shuffled.nd rfl (.inl rfl) (me_op op_addAll os_add (me_var 3) (me_call (w__law_take T) (hr.mono (by decide)) T.d__law_take.mgf T.d__law_take.fn.kp T.d__law_take.bd tk (ma_cons (me_var 0) (ma_cons (me_op op_sub os_sub (me_var 1) (me_var 3)) ma_nil)))))
    (mb_cons (ms_set (i := 5) sc__law_shuffled.nd rfl (.inl rfl) (me_ix ix_seq os_ix (me_var 2) (me_var 3)))
    (mb_cons (ms_asg (me_ix ix_seq os_ix (me_var 2) (me_var 4)) (mg_sub set_list ss_list (me_var 2) (me_var 3)))
    (mb_one (ms_asg (me_var 5) (mg_sub set_list ss_list (me_var 2) (me_var 4))))))))
    (mb_one (ms_ret (me_var 2)))))
theorem w__law_is_whole (T : Txt K mg) : FnOk P0 w K mg base (L2.CX P0 w) 1 T.f__law_is_whole T.fd__law_is_whole ["value"] (spF K mg 1 c__law_is_whole) := by
  refine fn_ok (n := 1) (m := m__law_is_whole) T.d__law_is_whole.fn sc__law_is_whole rfl rfl fun cdv A outer s H E hr => ?_
  have tk : Takes (cxOf (L2.CX P0 w) P0 w K mg base N__law_is_whole "_law_is_whole" (defScope s__law_is_whole) T.f__law_is_whole cdv A outer s H E) (fun cls d _ H => E cls d H) := takes_of rfl rfl rfl rfl
  have po := passes_of (X := cxOf (L2.CX P0 w) P0 w K mg base N__law_is_whole "_law_is_whole" (defScope s__law_is_whole) T.f__law_is_whole cdv A outer s H E) rfl
  exact (mb_one (ms_ret (me_and (me_callB call_isi cs_isi T.b_isinstance (ma_cons (me_var 0) (ma_cons (me_ty T.b_int) ma_nil))) (me_one (me_not (me_callB call_isi cs_isi T.b_isinstance (ma_cons (me_var 0) (ma_cons (me_ty T.b_bool) ma_nil))))))))
theorem w__law_is_truth (T : Txt K mg) : FnOk P0 w K mg base (L2.CX P0 w) 1 T.f__law_is_truth T.fd__law_is_truth ["actual", "due"] (spF K mg 2 c__law_is_truth) := by
  refine fn_ok (n := 2) (m := m__law_is_truth) T.d__law_is_truth.fn sc__law_is_truth rfl rfl fun cdv A outer s H E hr => ?_
  have tk : Takes (cxOf (L2.CX P0 w) P0 w K mg base N__law_is_truth "_law_is_truth" (defScope s__law_is_truth) T.f__law_is_truth cdv A outer s H E) (fun cls d _ H => E cls d H) := takes_of rfl rfl rfl rfl
  have po := passes_of (X := cxOf (L2.CX P0 w) P0 w K mg base N__law_is_truth "_law_is_truth" (defScope s__law_is_truth) T.f__law_is_truth cdv A outer s H E) rfl
  exact (mb_one (ms_ret (me_and (me_callB call_isi cs_isi T.b_isinstance (ma_cons (me_var 0) (ma_cons (me_ty T.b_bool) ma_nil))) (me_one (me_cmp (op_eqD hr.units) os_eq (me_var 0) (me_var 1) (nomark _))))))
theorem w__law_is_row (T : Txt K mg) : FnOk P0 w K mg base (L2.CX P0 w) 2 T.f__law_is_row T.fd__law_is_row ["actual", "due"] (spF K mg 2 c__law_is_row) := by
  refine fn_ok (n := 3) (m := m__law_is_row) T.d__law_is_row.fn sc__law_is_row rfl rfl fun cdv A outer s H E hr => ?_
  have tk : Takes (cxOf (L2.CX P0 w) P0 w K mg base N__law_is_row "_law_is_row" (defScope s__law_is_row) T.f__law_is_row cdv A outer s H E) (fun cls d _ H => E cls d H) := takes_of rfl rfl rfl rfl
  have po := passes_of (X := cxOf (L2.CX P0 w) P0 w K mg base N__law_is_row "_law_is_row" (defScope s__law_is_row) T.f__law_is_row cdv A outer s H E) rfl
  exact (mb_cons (ms_if (MW.mt (mw_or (mt_not (mt_truth ts_truth (me_callB call_isi cs_isi T.b_isinstance (ma_cons (me_var 0) (ma_cons (me_ty T.b_tuple) ma_nil))))) (mw_or1 (mt_cmp (op_neD hr.units) os_ne (me_callB cl_len cs_lenAll T.b_len (ma_cons (me_var 0) ma_nil)) (me_callB cl_len cs_lenAll T.b_len (ma_cons (me_var 1) ma_nil)) (nomark _)))))
      (mb_one (ms_ret me_bl))
      mb_nil)
    (mb_cons (ms_for po rfl (mi_range1 T.b_range (ma_cons (me_callB cl_len cs_lenAll T.b_len (ma_cons (me_var 1) ma_nil)) ma_nil)) (mg_var sc__law_is_row.nd rfl (.inl rfl))
      (mb_one (ms_if (MW.mt (mw_or (mt_not (mt_truth ts_truth (me_call (w__law_is_whole T) (hr.mono (by decide)) T.d__law_is_whole.mgf T.d__law_is_whole.fn.kp T.d__law_is_whole.bd tk (ma_cons (me_ix ix_seq os_ix (me_var 0) (me_var 2)) ma_nil)))) (mw_or1 (mt_cmp (op_neD hr.units) os_ne (me_ix ix_seq os_ix (me_var 0) (me_var 2)) (me_ix ix_seq os_ix (me_var 1) (me_var 2)) (nomark _)))))
      (mb_one (ms_ret me_bl))
      mb_nil)))
    (mb_one (ms_ret me_bl))))
theorem w__law_is_rows (T : Txt K mg) : FnOk P0 w K mg base (L2.CX P0 w) 3 T.f__law_is_rows T.fd__law_is_rows ["actual", "due"] (spF K mg 2 c__law_is_rows) := by
  refine fn_ok (n := 3) (m := m__law_is_rows) T.d__law_is_rows.fn sc__law_is_rows rfl rfl fun cdv A outer s H E hr => ?_
  have tk : Takes (cxOf (L2.CX P0 w) P0 w K mg base N__law_is_rows "_law_is_rows" (defScope s__law_is_rows) T.f__law_is_rows cdv A outer s H E) (fun cls d _ H => E cls d H) := takes_of rfl rfl rfl rfl
  have po := passes_of (X := cxOf (L2.CX P0 w) P0 w K mg base N__law_is_rows "_law_is_rows" (defScope s__law_is_rows) T.f__law_is_rows cdv A outer s H E) rfl
  exact (mb_cons (ms_if (MW.mt (mw_or (mt_not (mt_truth ts_truth (me_callB call_isi cs_isi T.b_isinstance (ma_cons (me_var 0) (ma_cons (me_ty T.b_tuple) ma_nil))))) (mw_or1 (mt_cmp (op_neD hr.units) os_ne (me_callB cl_len cs_lenAll T.b_len (ma_cons (me_var 0) ma_nil)) (me_callB cl_len cs_lenAll T.b_len (ma_cons (me_var 1) ma_nil)) (nomark _)))))
      (mb_one (ms_ret me_bl))
      mb_nil)
    (mb_cons (ms_for po rfl (mi_range1 T.b_range (ma_cons (me_callB cl_len cs_lenAll T.b_len (ma_cons (me_var 1) ma_nil)) ma_nil)) (mg_var sc__law_is_rows.nd rfl (.inl rfl))
      (mb_one (ms_if (mt_not (mt_truth ts_truth (me_call (w__law_is_row T) (hr.mono (by decide)) T.d__law_is_row.mgf T.d__law_is_row.fn.kp T.d__law_is_row.bd tk (ma_cons (me_ix ix_seq os_ix (me_var 0) (me_var 2)) (ma_cons (me_ix ix_seq os_ix (me_var 1) (me_var 2)) ma_nil)))))
      (mb_one (ms_ret me_bl))
      mb_nil)))
    (mb_one (ms_ret me_bl))))
theorem w__law_partition (T : Txt K mg) : FnOk P0 w K mg base (L2.CX P0 w) 2 T.f__law_partition T.fd__law_partition ["bag", "points"] (spF K mg 2 c__law_partition) := by
  refine fn_ok (n := 7) (m := m__law_partition) T.d__law_partition.fn sc__law_partition rfl rfl fun cdv A outer s H E hr => ?_
  have tk : Takes (cxOf (L2.CX P0 w) P0 w K mg base N__law_partition "_law_partition" (defScope s__law_partition) T.f__law_partition cdv A outer s H E) (fun cls d _ H => E cls d H) := takes_of rfl rfl rfl rfl
  have po := passes_of (X := cxOf (L2.CX P0 w) P0 w K mg base N__law_partition "_law_partition" (defScope s__law_partition) T.f__law_partition cdv A outer s H E) rfl
  exact (mb_cons (ms_set (i := 2) sc__law_partition.nd rfl (.inl rfl) (me_call (w__law_take T) (hr.mono (by decide)) T.d__law_take.mgf T.d__law_take.fn.kp T.d__law_take.bd tk (ma_cons (me_var 0) (ma_cons me_int ma_nil))))
    (mb_cons (ms_set (i := 3) sc__law_partition.nd rfl (.inl rfl) (me_op op_addAll os_add me_int (me_call (w__law_take T) (hr.mono (by decide)) T.d__law_take.mgf T.d__law_take.fn.kp T.d__law_take.bd tk (ma_cons (me_var 0) (ma_cons (me_var 1) ma_nil)))))
    (mb_cons (ms_set (i := 4) sc__law_partition.nd rfl (.inl rfl) (me_lst ma_nil))
    (mb_cons (ms_for po rfl (mi_range1 T.b_range (ma_cons (me_var 1) ma_nil)) (mg_var sc__law_partition.nd rfl (.inl rfl))
      (mb_cons (ms_set (i := 6) sc__law_partition.nd rfl (.inl rfl) (me_call (w__law_take T) (hr.mono (by decide)) T.d__law_take.mgf T.d__law_take.fn.kp T.d__law_take.bd tk (ma_cons (me_var 0) (ma_cons (me_op op_addAll os_add (me_var 5) me_int) ma_nil))))
    (mb_cons (ms_if (MW.mt (mw_and (mt_cmp (op_eqD hr.units) os_eq (me_var 2) me_int (nomark _)) (mw_and1 (mt_cmp (op_eqD hr.units) os_eq (me_call (w__law_take T) (hr.mono (by decide)) T.d__law_take.mgf T.d__law_take.fn.kp T.d__law_take.bd tk (ma_cons (me_var 0) (ma_cons me_int ma_nil))) me_int (nomark _)))))
      (mb_one (ms_set (i := 6) sc__law_partition.nd rfl (.inl rfl) (me_var 5)))
      mb_nil)
    (mb_cons (ms_if (mt_cmp (op_eqD hr.units) os_eq (me_var 2) me_int (nomark _))
      (mb_one (ms_set (i := 6) sc__law_partition.nd rfl (.inl rfl) (me_op op_sub os_sub (me_var 5) (me_op op_mod os_mod (me_callTy call_int1 cs_int T.b_int (ma_cons (me_var 5) ma_nil)) (me_var 3)))))
      mb_nil)
    (mb_cons (ms_if (mt_cmp (op_eqD hr.units) os_eq (me_var 2) me_int (nomark _))
      (mb_one (ms_set (i := 6) sc__law_partition.nd rfl (.inl rfl) (me_op op_mod os_mod (me_callTy call_int1 cs_int T.b_int (ma_cons (me_var 5) ma_nil)) (me_var 3))))
      mb_nil)
    (mb_cons (ms_if (mt_cmp (op_ltAll hr.units0) os_lt (me_var 6) (me_var 5) (nomark _))
      (mb_one (ms_set (i := 6) sc__law_partition.nd rfl (.inl rfl) (me_ix ix_seq os_ix (me_var 4) (me_var 6))))
      mb_nil)
    (mb_one (ms_expr (me_meth PySem.F.plainAttrs_list PySem.F.slot_list_append PySem.F.type_list_append mt_append ms_append (me_var 4) (ma_cons (me_var 6) ma_nil))))))))))
    (mb_one (ms_ret (me_callTy call_tuple_of cs_tuple T.b_tuple (ma_cons (me_var 4) ma_nil))))))))
theorem w__law_classes (T : Txt K mg) : FnOk P0 w K mg base (L2.CX P0 w) 1 T.f__law_classes T.fd__law_classes ["labels"] (spF K mg 1 c__law_classes) := by
  refine fn_ok (n := 4) (m := m__law_classes) T.d__law_classes.fn sc__law_classes rfl rfl fun cdv A outer s H E hr => ?_
  have tk : Takes (cxOf (L2.CX P0 w) P0 w K mg base N__law_classes "_law_classes" (defScope s__law_classes) T.f__law_classes cdv A outer s H E) (fun cls d _ H => E cls d H) := takes_of rfl rfl rfl rfl
  have po := passes_of (X := cxOf (L2.CX P0 w) P0 w K mg base N__law_classes "_law_classes" (defScope s__law_classes) T.f__law_classes cdv A outer s H E) rfl
  exact (mb_cons (ms_set (i := 1) sc__law_classes.nd rfl (.inl rfl) (me_lst ma_nil))
    (mb_cons (ms_for po rfl (mi_range1 T.b_range (ma_cons (me_callB cl_len cs_lenAll T.b_len (ma_cons (me_var 0) ma_nil)) ma_nil)) (mg_var sc__law_classes.nd rfl (.inr rfl))
      (mb_one (ms_if (mt_cmp (op_eqD hr.units) os_eq (me_ix ix_seq os_ix (me_var 0) (me_var 2)) (me_var 2) (nomark _))
      (mb_one (ms_expr (me_meth PySem.F.plainAttrs_list PySem.F.slot_list_append PySem.F.type_list_append mt_append ms_append (me_var 1) (ma_cons (me_callTy call_tuple_of cs_tuple T.b_tuple (ma_cons (me_lc rfl sc__law_classes.nd (mi_range1 T.b_range (ma_cons (me_callB cl_len cs_lenAll T.b_len (ma_cons (me_var 0) ma_nil)) ma_nil)) (blkOk_by (own := [("k", 3)]) (by show blkC N__law_classes (defScope s__law_classes) _ _ = true; decide +kernel)) (fun _ _ _ _ _ => (mgc_var sc__law_classes.nd rfl (.inl rfl) (by decide))) (fun _ _ _ _ _ => (mts_one (mt_cmp (op_eqD hr.units) os_eq (me_ix ix_seq os_ix (me_var 0) (me_var 3)) (me_var 2) (nomark _)))) (fun _ _ _ _ _ => (me_var 3))) ma_nil)) ma_nil))))
      mb_nil)))
    (mb_one (ms_ret (me_var 1)))))
theorem w__law_keeping (T : Txt K mg) : FnOk P0 w K mg base (L2.CX P0 w) 3 T.f__law_keeping T.fd__law_keeping ["bag", "labels"] (spF K mg 2 c__law_keeping) := by
  refine fn_ok (n := 11) (m := m__law_keeping) T.d__law_keeping.fn sc__law_keeping rfl rfl fun cdv A outer s H E hr => ?_
  have tk : Takes (cxOf (L2.CX P0 w) P0 w K mg base N__law_keeping "_law_keeping" (defScope s__law_keeping) T.f__law_keeping cdv A outer s H E) (fun cls d _ H => E cls d H) := takes_of rfl rfl rfl rfl
  have po := passes_of (X := cxOf (L2.CX P0 w) P0 w K mg base N__law_keeping "_law_keeping" (defScope s__law_keeping) T.f__law_keeping cdv A outer s H E) rfl
  exact (mb_cons (ms_set (i := 2) sc__law_keeping.nd rfl (.inr rfl) (me_call (w__law_classes T) (hr.mono (by decide)) T.d__law_classes.mgf T.d__law_classes.fn.kp T.d__law_classes.bd tk (ma_cons (me_var 1) ma_nil)))
    (mb_cons (ms_set (i := 3) sc__law_keeping.nd rfl (.inl rfl) (me_op op_mulA os_mulA (me_lst (ma_cons me_int ma_nil)) (me_callB cl_len cs_lenAll T.b_len (ma_cons (me_var 1) ma_nil))))
    (mb_cons (ms_set (i := 4) sc__law_keeping.nd rfl (.inr rfl) (me_lst ma_nil))
    (mb_cons (ms_for po rfl (mi_val (me_var 2)) (mg_var sc__law_keeping.nd rfl (.inr rfl))
      (mb_cons (ms_setLc (i := 6) rfl sc__law_keeping.nd rfl rfl (sw_true rfl rfl rfl (by decide +kernel)) (mi_range1 T.b_range (ma_cons (me_callB cl_len cs_lenAll T.b_len (ma_cons (me_var 2) ma_nil)) ma_nil)) (blkOk_by (own := [("x", 10)]) (by show blkC N__law_keeping (defScope s__law_keeping) _ _ = true; decide +kernel)) (fun _ _ _ _ _ => (mgc_var sc__law_keeping.nd rfl (.inl rfl) (by decide))) (fun _ _ _ _ _ => (mts_one (MW.mt (mw_and (mt_cmp (op_notIn2 (units65 hr)) os_notIn2 (me_var 10) (me_var 4) rfl) (mw_and1 (mt_cmp (op_eqD hr.units) os_eq (me_callB cl_len cs_lenAll T.b_len (ma_cons (me_ix ix_seq os_ix (me_var 2) (me_var 10)) ma_nil)) (me_callB cl_len cs_lenAll T.b_len (ma_cons (me_var 5) ma_nil)) (nomark _))))))) (fun _ _ _ _ _ => (me_var 10)))
    (mb_cons (ms_set (i := 7) sc__law_keeping.nd rfl (.inl rfl) (me_ix ix_seq os_ix (me_var 6) (me_call (w__law_take T) (hr.mono (by decide)) T.d__law_take.mgf T.d__law_take.fn.kp T.d__law_take.bd tk (ma_cons (me_var 0) (ma_cons (me_callB cl_len cs_lenAll T.b_len (ma_cons (me_var 6) ma_nil)) ma_nil)))))
    (mb_cons (ms_expr (me_meth PySem.F.plainAttrs_list PySem.F.slot_list_append PySem.F.type_list_append mt_append ms_append (me_var 4) (ma_cons (me_var 7) ma_nil)))
    (mb_cons (ms_set (i := 8) sc__law_keeping.nd rfl (.inl rfl) (me_call (w__law_shuffled T) (hr.mono (by decide)) T.d__law_shuffled.mgf T.d__law_shuffled.fn.kp T.d__law_shuffled.bd tk (ma_cons (me_var 0) (ma_cons (me_callB cl_len cs_lenAll T.b_len (ma_cons (me_var 5) ma_nil)) ma_nil))))
    (mb_one (ms_for po rfl (mi_range1 T.b_range (ma_cons (me_callB cl_len cs_lenAll T.b_len (ma_cons (me_var 5) ma_nil)) ma_nil)) (mg_var sc__law_keeping.nd rfl (.inl rfl))
      (mb_one (ms_asg (me_ix ix_seq os_ix (me_ix ix_seq os_ix (me_var 2) (me_var 7)) (me_ix ix_seq os_ix (me_var 8) (me_var 9))) (mg_sub set_list ss_list (me_var 3) (me_ix ix_seq os_ix (me_var 5) (me_var 9))))))))))))
    (mb_one (ms_ret (me_var 3)))))))
theorem w__law_moving (T : Txt K mg) : FnOk P0 w K mg base (L2.CX P0 w) 4 T.f__law_moving T.fd__law_moving ["bag", "labels", "strict"] (spF K mg 3 c__law_moving) := by
  refine fn_ok (n := 8) (m := m__law_moving) T.d__law_moving.fn sc__law_moving rfl rfl fun cdv A outer s H E hr => ?_
  have tk : Takes (cxOf (L2.CX P0 w) P0 w K mg base N__law_moving "_law_moving" (defScope s__law_moving) T.f__law_moving cdv A outer s H E) (fun cls d _ H => E cls d H) := takes_of rfl rfl rfl rfl
  have po := passes_of (X := cxOf (L2.CX P0 w) P0 w K mg base N__law_moving "_law_moving" (defScope s__law_moving) T.f__law_moving cdv A outer s H E) rfl
  exact (mb_cons (ms_set (i := 3) sc__law_moving.nd rfl (.inl rfl) (me_call (w__law_take T) (hr.mono (by decide)) T.d__law_take.mgf T.d__law_take.fn.kp T.d__law_take.bd tk (ma_cons (me_var 0) (ma_cons me_int ma_nil))))
    (mb_cons (ms_if (mt_truth ts_truth (me_var 2))
      (mb_one (ms_set (i := 3) sc__law_moving.nd rfl (.inl rfl) me_int))
      mb_nil)
    (mb_cons (ms_if (mt_cmp (op_eqD hr.units) os_eq (me_var 3) me_int (nomark _))
      (mb_one (ms_ret (me_callTy call_tuple_of cs_tuple T.b_tuple (ma_cons (me_call (w__law_shuffled T) (hr.mono (by decide)) T.d__law_shuffled.mgf T.d__law_shuffled.fn.kp T.d__law_shuffled.bd tk (ma_cons (me_var 0) (ma_cons (me_callB cl_len cs_lenAll T.b_len (ma_cons (me_var 1) ma_nil)) ma_nil))) ma_nil))))
      mb_nil)
    (mb_cons (ms_set (i := 4) sc__law_moving.nd rfl (.inl rfl) (me_call (w__law_keeping T) (hr.mono (by decide)) T.d__law_keeping.mgf T.d__law_keeping.fn.kp T.d__law_keeping.bd tk (ma_cons (me_var 0) (ma_cons (me_var 1) ma_nil))))
    (mb_cons (ms_if (mt_cmp (op_eqD hr.units) os_eq (me_var 3) me_int (nomark _))
      (mb_cons (ms_set (i := 5) sc__law_moving.nd rfl (.inl rfl) (me_call (w__law_take T) (hr.mono (by decide)) T.d__law_take.mgf T.d__law_take.fn.kp T.d__law_take.bd tk (ma_cons (me_var 0) (ma_cons (me_callB cl_len cs_lenAll T.b_len (ma_cons (me_var 1) ma_nil)) ma_nil))))
    (mb_cons (ms_set (i := 6) sc__law_moving.nd rfl (.inl rfl) (me_call (w__law_take T) (hr.mono (by decide)) T.d__law_take.mgf T.d__law_take.fn.kp T.d__law_take.bd tk (ma_cons (me_var 0) (ma_cons (me_callB cl_len cs_lenAll T.b_len (ma_cons (me_var 1) ma_nil)) ma_nil))))
    (mb_cons (ms_set (i := 7) sc__law_moving.nd rfl (.inl rfl) (me_ix ix_seq os_ix (me_var 4) (me_var 5)))
    (mb_cons (ms_asg (me_ix ix_seq os_ix (me_var 4) (me_var 6)) (mg_sub set_list ss_list (me_var 4) (me_var 5)))
    (mb_one (ms_asg (me_var 7) (mg_sub set_list ss_list (me_var 4) (me_var 6))))))))
      mb_nil)
    (mb_one (ms_ret (me_callTy call_tuple_of cs_tuple T.b_tuple (ma_cons (me_var 4) ma_nil)))))))))
theorem w__law_finer (T : Txt K mg) : FnOk P0 w K mg base (L2.CX P0 w) 1 T.f__law_finer T.fd__law_finer ["first", "second"] (spF K mg 2 c__law_finer) := by
  refine fn_ok (n := 4) (m := m__law_finer) T.d__law_finer.fn sc__law_finer rfl rfl fun cdv A outer s H E hr => ?_
  have tk : Takes (cxOf (L2.CX P0 w) P0 w K mg base N__law_finer "_law_finer" (defScope s__law_finer) T.f__law_finer cdv A outer s H E) (fun cls d _ H => E cls d H) := takes_of rfl rfl rfl rfl
  have po := passes_of (X := cxOf (L2.CX P0 w) P0 w K mg base N__law_finer "_law_finer" (defScope s__law_finer) T.f__law_finer cdv A outer s H E) rfl
  exact (mb_cons (ms_for po rfl (mi_range1 T.b_range (ma_cons (me_callB cl_len cs_lenAll T.b_len (ma_cons (me_var 0) ma_nil)) ma_nil)) (mg_var sc__law_finer.nd rfl (.inl rfl))
      (mb_one (ms_for po rfl (mi_range1 T.b_range (ma_cons (me_var 2) ma_nil)) (mg_var sc__law_finer.nd rfl (.inl rfl))
      (mb_one (ms_if (MW.mt (mw_and (mt_cmp (op_eqD hr.units) os_eq (me_ix ix_seq os_ix (me_var 0) (me_var 2)) (me_ix ix_seq os_ix (me_var 0) (me_var 3)) (nomark _)) (mw_and1 (mt_cmp (op_neD hr.units) os_ne (me_ix ix_seq os_ix (me_var 1) (me_var 2)) (me_ix ix_seq os_ix (me_var 1) (me_var 3)) (nomark _)))))
      (mb_one (ms_ret me_bl))
      mb_nil)))))
    (mb_one (ms_ret me_bl)))
theorem w__law_meet (T : Txt K mg) : FnOk P0 w K mg base (L2.CX P0 w) 1 T.f__law_meet T.fd__law_meet ["first", "second"] (spF K mg 2 c__law_meet) := by
  refine fn_ok (n := 5) (m := m__law_meet) T.d__law_meet.fn sc__law_meet rfl rfl fun cdv A outer s H E hr => ?_
  have tk : Takes (cxOf (L2.CX P0 w) P0 w K mg base N__law_meet "_law_meet" (defScope s__law_meet) T.f__law_meet cdv A outer s H E) (fun cls d _ H => E cls d H) := takes_of rfl rfl rfl rfl
  have po := passes_of (X := cxOf (L2.CX P0 w) P0 w K mg base N__law_meet "_law_meet" (defScope s__law_meet) T.f__law_meet cdv A outer s H E) rfl
  exact (mb_cons (ms_set (i := 2) sc__law_meet.nd rfl (.inl rfl) (me_lst ma_nil))
    (mb_cons (ms_for po rfl (mi_range1 T.b_range (ma_cons (me_callB cl_len cs_lenAll T.b_len (ma_cons (me_var 0) ma_nil)) ma_nil)) (mg_var sc__law_meet.nd rfl (.inr rfl))
      (mb_one (ms_expr (me_meth PySem.F.plainAttrs_list PySem.F.slot_list_append PySem.F.type_list_append mt_append ms_append (me_var 2) (ma_cons (me_callB (cr_minA rfl (units65 hr)) cs_minA T.b_min (ma_cons (me_lc rfl sc__law_meet.nd (mi_range1 T.b_range (ma_cons (me_op op_addAll os_add (me_var 3) me_int) ma_nil)) (blkOk_by (own := [("j", 4)]) (by show blkC N__law_meet (defScope s__law_meet) _ _ = true; decide +kernel)) (fun _ _ _ _ _ => (mgc_var sc__law_meet.nd rfl (.inl rfl) (by decide))) (fun _ _ _ _ _ => (mts_one (MW.mt (mw_and (mt_cmp (op_eqD hr.units) os_eq (me_ix ix_seq os_ix (me_var 0) (me_var 4)) (me_ix ix_seq os_ix (me_var 0) (me_var 3)) (nomark _)) (mw_and1 (mt_cmp (op_eqD hr.units) os_eq (me_ix ix_seq os_ix (me_var 1) (me_var 4)) (me_ix ix_seq os_ix (me_var 1) (me_var 3)) (nomark _))))))) (fun _ _ _ _ _ => (me_var 4))) ma_nil)) ma_nil)))))
    (mb_one (ms_ret (me_callTy call_tuple_of cs_tuple T.b_tuple (ma_cons (me_var 2) ma_nil))))))
theorem w__law_join (T : Txt K mg) : FnOk P0 w K mg base (L2.CX P0 w) 1 T.f__law_join T.fd__law_join ["first", "second"] (spF K mg 2 c__law_join) := by
  refine fn_ok (n := 7) (m := m__law_join) T.d__law_join.fn sc__law_join rfl rfl fun cdv A outer s H E hr => ?_
  have tk : Takes (cxOf (L2.CX P0 w) P0 w K mg base N__law_join "_law_join" (defScope s__law_join) T.f__law_join cdv A outer s H E) (fun cls d _ H => E cls d H) := takes_of rfl rfl rfl rfl
  have po := passes_of (X := cxOf (L2.CX P0 w) P0 w K mg base N__law_join "_law_join" (defScope s__law_join) T.f__law_join cdv A outer s H E) rfl
  exact (mb_cons (ms_set (i := 2) sc__law_join.nd rfl (.inl rfl) (me_callTy call_list_of cs_list T.b_list (ma_cons (me_var 0) ma_nil)))
    (mb_cons (ms_for po rfl (mi_range1 T.b_range (ma_cons (me_callB cl_len cs_lenAll T.b_len (ma_cons (me_var 0) ma_nil)) ma_nil)) (mg_var sc__law_join.nd rfl (.inl rfl))
      (mb_cons (ms_set (i := 4) sc__law_join.nd rfl (.inr rfl) (me_callB (call_min2 rfl) cs_min2 T.b_min (ma_cons (me_ix ix_seq os_ix (me_var 2) (me_var 3)) (ma_cons (me_ix ix_seq os_ix (me_var 2) (me_ix ix_seq os_ix (me_var 1) (me_var 3))) ma_nil))))
    (mb_cons (ms_set (i := 5) sc__law_join.nd rfl (.inr rfl) (me_callB (call_max2 rfl) cs_max2 T.b_max (ma_cons (me_ix ix_seq os_ix (me_var 2) (me_var 3)) (ma_cons (me_ix ix_seq os_ix (me_var 2) (me_ix ix_seq os_ix (me_var 1) (me_var 3))) ma_nil))))
    (mb_one (ms_setLc (i := 2) rfl sc__law_join.nd rfl rfl (sw_true rfl rfl rfl (by decide +kernel)) (mi_val (me_var 2)) (blkOk_by (own := [("x", 6)]) (by show blkC N__law_join (defScope s__law_join) _ _ = true; decide +kernel)) (fun _ _ _ _ _ => (mgc_var sc__law_join.nd rfl (.inl rfl) (by decide))) (fun _ _ _ _ _ => mts_nil) (fun _ _ _ _ _ => (me_if (mt_cmp (op_eqD hr.units) os_eq (me_var 6) (me_var 5) (nomark _)) (me_var 4) (me_var 6))))))))
    (mb_one (ms_ret (me_callTy call_tuple_of cs_tuple T.b_tuple (ma_cons (me_var 2) ma_nil))))))
theorem w__law_is_labels (T : Txt K mg) : FnOk P0 w K mg base (L2.CX P0 w) 2 T.f__law_is_labels T.fd__law_is_labels ["value", "points"] (spF K mg 2 c__law_is_labels) := by
  refine fn_ok (n := 3) (m := m__law_is_labels) T.d__law_is_labels.fn sc__law_is_labels rfl rfl fun cdv A outer s H E hr => ?_
  have tk : Takes (cxOf (L2.CX P0 w) P0 w K mg base N__law_is_labels "_law_is_labels" (defScope s__law_is_labels) T.f__law_is_labels cdv A outer s H E) (fun cls d _ H => E cls d H) := takes_of rfl rfl rfl rfl
  have po := passes_of (X := cxOf (L2.CX P0 w) P0 w K mg base N__law_is_labels "_law_is_labels" (defScope s__law_is_labels) T.f__law_is_labels cdv A outer s H E) rfl
  exact (mb_cons (ms_if (MW.mt (mw_or (mt_not (mt_truth ts_truth (me_callB call_isi cs_isi T.b_isinstance (ma_cons (me_var 0) (ma_cons (me_ty T.b_tuple) ma_nil))))) (mw_or1 (mt_cmp (op_neD hr.units) os_ne (me_callB cl_len cs_lenAll T.b_len (ma_cons (me_var 0) ma_nil)) (me_var 1) (nomark _)))))
      (mb_one (ms_ret me_bl))
      mb_nil)
    (mb_cons (ms_for po rfl (mi_range1 T.b_range (ma_cons (me_var 1) ma_nil)) (mg_var sc__law_is_labels.nd rfl (.inl rfl))
      (mb_cons (ms_if (MW.mt (mw_or (mt_not (mt_truth ts_truth (me_call (w__law_is_whole T) (hr.mono (by decide)) T.d__law_is_whole.mgf T.d__law_is_whole.fn.kp T.d__law_is_whole.bd tk (ma_cons (me_ix ix_seq os_ix (me_var 0) (me_var 2)) ma_nil)))) (mw_or (mt_cmp (op_ltAll hr.units0) os_lt (me_ix ix_seq os_ix (me_var 0) (me_var 2)) me_int (nomark _)) (mw_or1 (mt_cmp op_gt os_gt (me_ix ix_seq os_ix (me_var 0) (me_var 2)) (me_var 2) (nomark _))))))
      (mb_one (ms_ret me_bl))
      mb_nil)
    (mb_one (ms_if (mt_cmp (op_neD hr.units) os_ne (me_ix ix_seq os_ix (me_var 0) (me_ix ix_seq os_ix (me_var 0) (me_var 2))) (me_ix ix_seq os_ix (me_var 0) (me_var 2)) (nomark _))
      (mb_one (ms_ret me_bl))
      mb_nil))))
    (mb_one (ms_ret me_bl))))
theorem w__law_first_break (T : Txt K mg) : FnOk P0 w K mg base (L2.CX P0 w) 1 T.f__law_first_break T.fd__law_first_break ["labels", "perms"] (spF K mg 2 c__law_first_break) := by
  refine fn_ok (n := 5) (m := m__law_first_break) T.d__law_first_break.fn sc__law_first_break rfl rfl fun cdv A outer s H E hr => ?_
  have tk : Takes (cxOf (L2.CX P0 w) P0 w K mg base N__law_first_break "_law_first_break" (defScope s__law_first_break) T.f__law_first_break cdv A outer s H E) (fun cls d _ H => E cls d H) := takes_of rfl rfl rfl rfl
  have po := passes_of (X := cxOf (L2.CX P0 w) P0 w K mg base N__law_first_break "_law_first_break" (defScope s__law_first_break) T.f__law_first_break cdv A outer s H E) rfl
  exact (mb_cons (ms_for po rfl (mi_range1 T.b_range (ma_cons (me_callB cl_len cs_lenAll T.b_len (ma_cons (me_var 1) ma_nil)) ma_nil)) (mg_var sc__law_first_break.nd rfl (.inl rfl))
      (mb_one (ms_for po rfl (mi_range1 T.b_range (ma_cons (me_callB cl_len cs_lenAll T.b_len (ma_cons (me_var 0) ma_nil)) ma_nil)) (mg_var sc__law_first_break.nd rfl (.inl rfl))
      (mb_one (ms_for po rfl (mi_range2 T.b_range (ma_cons (me_op op_addAll os_add (me_var 3) me_int) (ma_cons (me_callB cl_len cs_lenAll T.b_len (ma_cons (me_var 0) ma_nil)) ma_nil))) (mg_var sc__law_first_break.nd rfl (.inl rfl))
      (mb_one (ms_if (MW.mt (mw_and (mt_cmp (op_eqD hr.units) os_eq (me_ix ix_seq os_ix (me_var 0) (me_var 3)) (me_ix ix_seq os_ix (me_var 0) (me_var 4)) (nomark _)) (mw_and1 (mt_cmp (op_neD hr.units) os_ne (me_ix ix_seq os_ix (me_var 0) (me_ix ix_seq os_ix (me_ix ix_seq os_ix (me_var 1) (me_var 2)) (me_var 3))) (me_ix ix_seq os_ix (me_var 0) (me_ix ix_seq os_ix (me_ix ix_seq os_ix (me_var 1) (me_var 2)) (me_var 4))) (nomark _)))))
      (mb_one (ms_ret (me_tup (ma_cons (me_var 2) (ma_cons (me_var 3) (ma_cons (me_var 4) ma_nil))))))
      mb_nil)))))))
    (mb_one (ms_ret me_non)))
theorem w__law_pairs_hold (T : Txt K mg) : FnOk P0 w K mg base (L2.CX P0 w) 3 T.f__law_pairs_hold T.fd__law_pairs_hold ["first", "second"] (spF K mg 2 c__law_pairs_hold) := by
  refine fn_ok (n := 3) (m := m__law_pairs_hold) T.d__law_pairs_hold.fn sc__law_pairs_hold rfl rfl fun cdv A outer s H E hr => ?_
  have tk : Takes (cxOf (L2.CX P0 w) P0 w K mg base N__law_pairs_hold "_law_pairs_hold" (defScope s__law_pairs_hold) T.f__law_pairs_hold cdv A outer s H E) (fun cls d _ H => E cls d H) := takes_of rfl rfl rfl rfl
  have po := passes_of (X := cxOf (L2.CX P0 w) P0 w K mg base N__law_pairs_hold "_law_pairs_hold" (defScope s__law_pairs_hold) T.f__law_pairs_hold cdv A outer s H E) rfl
  exact (mb_cons (ms_for po rfl (mi_val (me_lst (ma_cons (me_tup (ma_cons (me_var 0) (ma_cons (me_var 1) ma_nil))) (ma_cons (me_tup (ma_cons (me_var 1) (ma_cons (me_var 0) ma_nil))) (ma_cons (me_tup (ma_cons (me_var 0) (ma_cons (me_var 0) ma_nil))) ma_nil))))) (mg_var sc__law_pairs_hold.nd rfl (.inl rfl))
      (mb_cons (ms_if (mt_not (mt_truth ts_truth (me_call (w__law_is_truth T) (hr.mono (by decide)) T.d__law_is_truth.mgf T.d__law_is_truth.fn.kp T.d__law_is_truth.bd tk (ma_cons (me_call (w_finer T) (hr.mono (by decide)) T.d_finer.mgf T.d_finer.fn.kp T.d_finer.bd tk (ma_cons (me_ix ix_seq os_ix (me_var 2) me_int) (ma_cons (me_ix ix_seq os_ix (me_var 2) me_int) ma_nil))) (ma_cons (me_call (w__law_finer T) (hr.mono (by decide)) T.d__law_finer.mgf T.d__law_finer.fn.kp T.d__law_finer.bd tk (ma_cons (me_ix ix_seq os_ix (me_var 2) me_int) (ma_cons (me_ix ix_seq os_ix (me_var 2) me_int) ma_nil))) ma_nil)))))
      (mb_one (ms_ret me_bl))
      mb_nil)
    (mb_cons (ms_if (mt_not (mt_truth ts_truth (me_call (w__law_is_row T) (hr.mono (by decide)) T.d__law_is_row.mgf T.d__law_is_row.fn.kp T.d__law_is_row.bd tk (ma_cons (me_call (w_meet_labels T) (hr.mono (by decide)) T.d_meet_labels.mgf T.d_meet_labels.fn.kp T.d_meet_labels.bd tk (ma_cons (me_ix ix_seq os_ix (me_var 2) me_int) (ma_cons (me_ix ix_seq os_ix (me_var 2) me_int) ma_nil))) (ma_cons (me_call (w__law_meet T) (hr.mono (by decide)) T.d__law_meet.mgf T.d__law_meet.fn.kp T.d__law_meet.bd tk (ma_cons (me_ix ix_seq os_ix (me_var 2) me_int) (ma_cons (me_ix ix_seq os_ix (me_var 2) me_int) ma_nil))) ma_nil)))))
      (mb_one (ms_ret me_bl))
      mb_nil)
    (mb_one (ms_if (mt_not (mt_truth ts_truth (me_call (w__law_is_row T) (hr.mono (by decide)) T.d__law_is_row.mgf T.d__law_is_row.fn.kp T.d__law_is_row.bd tk (ma_cons (me_call (w_join_labels T) (hr.mono (by decide)) T.d_join_labels.mgf T.d_join_labels.fn.kp T.d_join_labels.bd tk (ma_cons (me_ix ix_seq os_ix (me_var 2) me_int) (ma_cons (me_ix ix_seq os_ix (me_var 2) me_int) ma_nil))) (ma_cons (me_call (w__law_join T) (hr.mono (by decide)) T.d__law_join.mgf T.d__law_join.fn.kp T.d__law_join.bd tk (ma_cons (me_ix ix_seq os_ix (me_var 2) me_int) (ma_cons (me_ix ix_seq os_ix (me_var 2) me_int) ma_nil))) ma_nil)))))
      (mb_one (ms_ret me_bl))
      mb_nil)))))
    (mb_one (ms_ret me_bl)))
theorem w__law_no_classes (T : Txt K mg) : FnOk P0 w K mg base (L2.CX P0 w) 2 T.f__law_no_classes T.fd__law_no_classes ["bag", "told", "points"] (spF K mg 3 c__law_no_classes) := by
  refine fn_ok (n := 8) (m := m__law_no_classes) T.d__law_no_classes.fn sc__law_no_classes rfl rfl fun cdv A outer s H E hr => ?_
  have tk : Takes (cxOf (L2.CX P0 w) P0 w K mg base N__law_no_classes "_law_no_classes" (defScope s__law_no_classes) T.f__law_no_classes cdv A outer s H E) (fun cls d _ H => E cls d H) := takes_of rfl rfl rfl rfl
  have po := passes_of (X := cxOf (L2.CX P0 w) P0 w K mg base N__law_no_classes "_law_no_classes" (defScope s__law_no_classes) T.f__law_no_classes cdv A outer s H E) rfl
  exact (mb_cons (ms_set (i := 3) sc__law_no_classes.nd rfl (.inl rfl) (me_call (w__law_take T) (hr.mono (by decide)) T.d__law_take.mgf T.d__law_take.fn.kp T.d__law_take.bd tk (ma_cons (me_var 0) (ma_cons me_int ma_nil))))
    (mb_cons (ms_set (i := 4) sc__law_no_classes.nd rfl (.inl rfl) (me_call (w__law_take T) (hr.mono (by decide)) T.d__law_take.mgf T.d__law_take.fn.kp T.d__law_take.bd tk (ma_cons (me_var 0) (ma_cons (me_op op_addAll os_add (me_callB cl_len cs_lenAll T.b_len (ma_cons (me_var 1) ma_nil)) me_int) ma_nil))))
    (mb_cons (ms_if (mt_cmp (op_eqD hr.units) os_eq (me_var 3) me_int (nomark _))
      (mb_one (ms_ret (me_ix ix_seq os_ix (me_lst (ma_cons me_non (ma_cons me_str (ma_cons me_str (ma_cons me_int (ma_cons me_bl (ma_cons (me_un un_neg us_neg me_int) ma_nil))))))) (me_call (w__law_take T) (hr.mono (by decide)) T.d__law_take.mgf T.d__law_take.fn.kp T.d__law_take.bd tk (ma_cons (me_var 0) (ma_cons me_int ma_nil))))))
      mb_nil)
    (mb_cons (ms_if (mt_cmp (op_eqD hr.units) os_eq (me_var 3) me_int (nomark _))
      (mb_cons (ms_set (i := 5) sc__law_no_classes.nd rfl (.inl rfl) (me_lst (ma_cons (me_tup ma_nil) (ma_cons (me_tup (ma_cons (me_var 2) ma_nil)) (ma_cons (me_tup (ma_cons (me_un un_neg us_neg me_int) ma_nil)) (ma_cons (me_tup (ma_cons me_int (ma_cons me_int ma_nil))) (ma_cons (me_tup (ma_cons me_non ma_nil)) (ma_cons me_int (ma_cons (me_tup (ma_cons me_bl ma_nil)) (ma_cons me_str (ma_cons me_non (ma_cons (me_tup (ma_cons me_str ma_nil)) (ma_cons (me_tup (ma_cons (me_tup (ma_cons me_int ma_nil)) ma_nil)) (ma_cons (me_var 2) ma_nil))))))))))))))
    (mb_one (ms_ret (me_op op_addAll os_add (me_op op_addAll os_add (me_slice (me_var 1) mo_none (mo_some (me_var 4))) (me_tup (ma_cons (me_ix ix_seq os_ix (me_var 5) (me_call (w__law_take T) (hr.mono (by decide)) T.d__law_take.mgf T.d__law_take.fn.kp T.d__law_take.bd tk (ma_cons (me_var 0) (ma_cons me_int ma_nil)))) ma_nil))) (me_slice (me_var 1) (mo_some (me_var 4)) mo_none)))))
      mb_nil)
    (mb_cons (ms_if (mt_cmp (op_eqD hr.units) os_eq (me_callB cl_len cs_lenAll T.b_len (ma_cons (me_var 1) ma_nil)) me_int (nomark _))
      (mb_one (ms_ret (me_tup (ma_cons (me_tup (ma_cons me_int (ma_cons me_int ma_nil))) ma_nil))))
      mb_nil)
    (mb_cons (ms_set (i := 6) sc__law_no_classes.nd rfl (.inl rfl) (me_call (w__law_take T) (hr.mono (by decide)) T.d__law_take.mgf T.d__law_take.fn.kp T.d__law_take.bd tk (ma_cons (me_var 0) (ma_cons (me_callB cl_len cs_lenAll T.b_len (ma_cons (me_var 1) ma_nil)) ma_nil))))
    (mb_cons (ms_if (mt_cmp (op_eqD hr.units) os_eq (me_var 3) me_int (nomark _))
      (mb_one (ms_ret (me_op op_addAll os_add (me_op op_addAll os_add (me_slice (me_var 1) mo_none (mo_some (me_var 4))) (me_tup (ma_cons (me_tup (ma_cons (me_ix ix_seq os_ix (me_ix ix_seq os_ix (me_var 1) (me_var 6)) (me_call (w__law_take T) (hr.mono (by decide)) T.d__law_take.mgf T.d__law_take.fn.kp T.d__law_take.bd tk (ma_cons (me_var 0) (ma_cons (me_callB cl_len cs_lenAll T.b_len (ma_cons (me_ix ix_seq os_ix (me_var 1) (me_var 6)) ma_nil)) ma_nil)))) ma_nil)) ma_nil))) (me_slice (me_var 1) (mo_some (me_var 4)) mo_none))))
      mb_nil)
    (mb_cons (ms_set (i := 7) sc__law_no_classes.nd rfl (.inl rfl) (me_ix ix_seq os_ix (me_lst (ma_cons (me_var 2) (ma_cons (me_op op_addAll os_add (me_var 2) me_int) (ma_cons (me_un un_neg us_neg me_int) (ma_cons me_non (ma_cons me_bl (ma_cons me_str (ma_cons (me_tup (ma_cons me_int ma_nil)) (ma_cons (me_ix ix_seq os_ix (me_ix ix_seq os_ix (me_var 1) (me_var 6)) me_int) ma_nil))))))))) (me_call (w__law_take T) (hr.mono (by decide)) T.d__law_take.mgf T.d__law_take.fn.kp T.d__law_take.bd tk (ma_cons (me_var 0) (ma_cons me_int ma_nil)))))
    (mb_one (ms_ret (me_op op_addAll os_add (me_op op_addAll os_add (me_slice (me_var 1) mo_none (mo_some (me_var 6))) (me_tup (ma_cons (me_op op_addAll os_add (me_ix ix_seq os_ix (me_var 1) (me_var 6)) (me_tup (ma_cons (me_var 7) ma_nil))) ma_nil))) (me_slice (me_var 1) (mo_some (me_op op_addAll os_add (me_var 6) me_int)) mo_none))))))))))))
theorem w__law_refused (T : Txt K mg) : FnG P0 w K mg base 4 T.f__law_refused T.fd__law_refused ["value", "points"] (spF K mg 2 (noX c__law_refused)) := by
  refine fn_okG (n := 3) (m := m__law_refused) T.d__law_refused.fn sc__law_refused rfl rfl fun cdv A outer s H hr => ?_
  have tk : Takes (cxOf (L2.CX P0 w) P0 w K mg base N__law_refused "_law_refused" (defScope s__law_refused) T.f__law_refused cdv A outer s H (fun _ _ _ => False)) (fun _ _ _ _ => False) := takes_of rfl rfl rfl rfl
  have po := passes_of (X := cxOf (L2.CX P0 w) P0 w K mg base N__law_refused "_law_refused" (defScope s__law_refused) T.f__law_refused cdv A outer s H (fun _ _ _ => False)) rfl
  exact (mb_cons (ms_try (i := 2) (caught := fun c => ([("InvalidLabels", true)] : List (Str × Bool)).lookup c) rfl rfl rfl sc__law_refused.nd rfl rfl ⟨rfl, by decide, .inl T.my_InvalidLabels⟩ tk (fun c b Cl h hm => by
          rcases (caught_one h) with ⟨rfl, rfl⟩
          · obtain rfl : Cl = T.x_InvalidLabels := by
              have z := hm.symm.trans (T.e_InvalidLabels).mgx
              cases z; rfl
            exact T.ex_InvalidLabels_InvalidLabels) (fun W pn xe tk po => (mb_one (ms_expr (me_call (w_labels_of T) (hr.mono (by decide)).room T.d_labels_of.mgf T.d_labels_of.fn.kp T.d_labels_of.bd tk (ma_cons (me_var 0) (ma_cons (me_var 1) ma_nil))))))
        (fun a oe Cl dd pn c fs hz hf hm hc => by
          rcases (caught_one hc) with ⟨rfl, h⟩
          · obtain rfl : Cl = T.x_InvalidLabels := by
              have z := hm.symm.trans (T.e_InvalidLabels).mgx
              cases z; rfl
            rw [show th__law_refused_1 "InvalidLabels" fs = th__law_refused_1_InvalidLabels fs from if_pos rfl]
            exact (mb_cons (ms_if (MW.mt (mw_or (mt_not (mt_truth ts_truth (me_isE hz hf (T.e_InvalidLabels).ec rfl (.inl rfl) T.b_isinstance (pe_glob (v := .ref T.y_TumblerError) (by rfl) T.my_TumblerError rfl) (fun u h => h) T.ki_InvalidLabels_TumblerError))) (mw_or1 (mt_not (mt_truth ts_truth (me_isE hz hf (T.e_InvalidLabels).ec rfl (.inl rfl) T.b_isinstance (pe_bltn (v := .ty "ValueError") (by rfl) T.b_ValueError (by decide +kernel) rfl) (fun u h => h) T.ki_InvalidLabels_ValueError))))))
      (mb_one (ms_ret me_bl))
      mb_nil)
    (mb_cons (ms_if (MW.mt (mw_or (mt_truth ts_truth (me_isE hz hf (T.e_InvalidLabels).ec rfl (.inl rfl) T.b_isinstance (pe_glob (v := .ref T.y_InvalidPerm) (by rfl) T.my_InvalidPerm rfl) (fun u h => h) T.ki_InvalidLabels_InvalidPerm)) (mw_or1 (mt_truth ts_truth (me_isE hz hf (T.e_InvalidLabels).ec rfl (.inl rfl) T.b_isinstance (pe_glob (v := .ref T.y_InvalidCycles) (by rfl) T.my_InvalidCycles rfl) (fun u h => h) T.ki_InvalidLabels_InvalidCycles)))))
      (mb_one (ms_ret me_bl))
      mb_nil)
    (mb_one (ms_ret (me_and (me_cmp (op_eqD (by exact hr.room.units)) os_eq (me_callB (call_reprG (by have u := hr.gd; exact u) (by have u := units65G hr; exact u)) cs_repr T.b_repr (ma_cons (me_fld hz hf (T.e_InvalidLabels).xf (T.e_InvalidLabels).fl rfl (.inl rfl)) ma_nil)) (me_callB (call_reprG (by have u := hr.gd; exact u) (by have u := units65G hr; exact u)) cs_repr T.b_repr (ma_cons (me_var 0) ma_nil)) (nomark _)) (me_one (me_cmp (op_eqD (by exact hr.room.units)) os_eq (me_fld hz hf (T.e_InvalidLabels).xf (T.e_InvalidLabels).fl rfl (.inl rfl)) (me_var 0) (nomark _))))))))))
    (mb_one (ms_ret me_bl)))
theorem w__law_classes_hold (T : Txt K mg) : FnG P0 w K mg base 5 T.f__law_classes_hold T.fd__law_classes_hold ["bag", "labels"] (spF K mg 2 (noX c__law_classes_hold)) := by
  refine fn_okG (n := 8) (m := m__law_classes_hold) T.d__law_classes_hold.fn sc__law_classes_hold rfl rfl fun cdv A outer s H hr => ?_
  have tk : Takes (cxOf (L2.CX P0 w) P0 w K mg base N__law_classes_hold "_law_classes_hold" (defScope s__law_classes_hold) T.f__law_classes_hold cdv A outer s H (fun _ _ _ => False)) (fun _ _ _ _ => False) := takes_of rfl rfl rfl rfl
  have po := passes_of (X := cxOf (L2.CX P0 w) P0 w K mg base N__law_classes_hold "_law_classes_hold" (defScope s__law_classes_hold) T.f__law_classes_hold cdv A outer s H (fun _ _ _ => False)) rfl
  exact (mb_cons (ms_set (i := 2) sc__law_classes_hold.nd rfl (.inl rfl) (me_callB cl_len cs_lenAll T.b_len (ma_cons (me_var 1) ma_nil)))
    (mb_cons (ms_set (i := 3) sc__law_classes_hold.nd rfl (.inl rfl) (me_call (w__law_classes T) (hr.mono (by decide)).room T.d__law_classes.mgf T.d__law_classes.fn.kp T.d__law_classes.bd tk (ma_cons (me_var 1) ma_nil)))
    (mb_cons (ms_if (mt_not (mt_truth ts_truth (me_call (w__law_is_rows T) (hr.mono (by decide)).room T.d__law_is_rows.mgf T.d__law_is_rows.fn.kp T.d__law_is_rows.bd tk (ma_cons (me_call (w_classes_of T) (hr.mono (by decide)).room T.d_classes_of.mgf T.d_classes_of.fn.kp T.d_classes_of.bd tk (ma_cons (me_var 1) ma_nil)) (ma_cons (me_var 3) ma_nil)))))
      (mb_one (ms_ret me_bl))
      mb_nil)
    (mb_cons (ms_set (i := 4) sc__law_classes_hold.nd rfl (.inl rfl) (me_lst ma_nil))
    (mb_cons (ms_set (i := 5) sc__law_classes_hold.nd rfl (.inl rfl) (me_listRg1 rfl T.b_list T.b_range (me_var 2)))
    (mb_cons (ms_for po rfl (mi_val (me_call (w__law_shuffled T) (hr.mono (by decide)).room T.d__law_shuffled.mgf T.d__law_shuffled.fn.kp T.d__law_shuffled.bd tk (ma_cons (me_var 0) (ma_cons (me_callB cl_len cs_lenAll T.b_len (ma_cons (me_var 3) ma_nil)) ma_nil)))) (mg_var sc__law_classes_hold.nd rfl (.inl rfl))
      (mb_one (ms_if (mt_cmp (op_neD hr.room.units) os_ne (me_call (w__law_take T) (hr.mono (by decide)).room T.d__law_take.mgf T.d__law_take.fn.kp T.d__law_take.bd tk (ma_cons (me_var 0) (ma_cons me_int ma_nil))) me_int (nomark _))
      (mb_cons (ms_expr (me_meth PySem.F.plainAttrs_list PySem.F.slot_list_append PySem.F.type_list_append mt_append ms_append (me_var 4) (ma_cons (me_ix ix_seq os_ix (me_var 3) (me_var 6)) ma_nil)))
    (mb_one (ms_for po rfl (mi_val (me_ix ix_seq os_ix (me_var 3) (me_var 6))) (mg_var sc__law_classes_hold.nd rfl (.inl rfl))
      (mb_one (ms_asg (me_ix ix_seq os_ix (me_ix ix_seq os_ix (me_var 3) (me_var 6)) me_int) (mg_sub set_list ss_list (me_var 5) (me_var 7)))))))
      mb_nil)))
    (mb_cons (ms_if (mt_not (mt_truth ts_truth (me_call (w__law_is_row T) (hr.mono (by decide)).room T.d__law_is_row.mgf T.d__law_is_row.fn.kp T.d__law_is_row.bd tk (ma_cons (me_call (w_labels_of T) (hr.mono (by decide)).room T.d_labels_of.mgf T.d_labels_of.fn.kp T.d_labels_of.bd tk (ma_cons (me_callTy call_tuple_of cs_tuple T.b_tuple (ma_cons (me_var 4) ma_nil)) (ma_cons (me_var 2) ma_nil))) (ma_cons (me_var 5) ma_nil)))))
      (mb_one (ms_ret me_bl))
      mb_nil)
    (mb_cons (ms_if (mt_not (mt_truth ts_truth (me_callG (w__law_refused T) (hr.mono (by decide)) T.d__law_refused.mgf T.d__law_refused.fn.kp T.d__law_refused.bd (ma_cons (me_call (w__law_no_classes T) (hr.mono (by decide)).room T.d__law_no_classes.mgf T.d__law_no_classes.fn.kp T.d__law_no_classes.bd tk (ma_cons (me_var 0) (ma_cons (me_callTy call_tuple_of cs_tuple T.b_tuple (ma_cons (me_var 4) ma_nil)) (ma_cons (me_var 2) ma_nil)))) (ma_cons (me_var 2) ma_nil)))))
      (mb_one (ms_ret me_bl))
      mb_nil)
    (mb_one (ms_ret (me_call (w__law_is_row T) (hr.mono (by decide)).room T.d__law_is_row.mgf T.d__law_is_row.fn.kp T.d__law_is_row.bd tk (ma_cons (me_call (w_labels_of T) (hr.mono (by decide)).room T.d_labels_of.mgf T.d_labels_of.fn.kp T.d_labels_of.bd tk (ma_cons (me_tupRev rfl T.b_tuple T.b_reversed (me_var 3)) (ma_cons (me_var 2) ma_nil))) (ma_cons (me_var 1) ma_nil)))))))))))))
theorem w__law_tests_hold (T : Txt K mg) : FnOk P0 w K mg base (L2.CX P0 w) 4 T.f__law_tests_hold T.fd__law_tests_hold ["bag", "labels"] (spF K mg 2 c__law_tests_hold) := by
  refine fn_ok (n := 13) (m := m__law_tests_hold) T.d__law_tests_hold.fn sc__law_tests_hold rfl rfl fun cdv A outer s H E hr => ?_
  have tk : Takes (cxOf (L2.CX P0 w) P0 w K mg base N__law_tests_hold "_law_tests_hold" (defScope s__law_tests_hold) T.f__law_tests_hold cdv A outer s H E) (fun cls d _ H => E cls d H) := takes_of rfl rfl rfl rfl
  have po := passes_of (X := cxOf (L2.CX P0 w) P0 w K mg base N__law_tests_hold "_law_tests_hold" (defScope s__law_tests_hold) T.f__law_tests_hold cdv A outer s H E) rfl
  exact (mb_cons (ms_set (i := 2) sc__law_tests_hold.nd rfl (.inl rfl) (me_callB cl_len cs_lenAll T.b_len (ma_cons (me_var 1) ma_nil)))
    (mb_cons (ms_set (i := 3) sc__law_tests_hold.nd rfl (.inl rfl) (me_op op_mulA os_mulA (me_lst (ma_cons me_int ma_nil)) (me_var 2)))
    (mb_cons (ms_for po rfl (mi_range1 T.b_range (ma_cons (me_var 2) ma_nil)) (mg_var sc__law_tests_hold.nd rfl (.inr rfl))
      (mb_one (ms_asg (me_callB (cr_max rfl) cs_maxL T.b_max (ma_cons (me_lc rfl sc__law_tests_hold.nd (mi_range1 T.b_range (ma_cons (me_var 2) ma_nil)) (blkOk_by (own := [("x", 5)]) (by show blkC N__law_tests_hold (defScope s__law_tests_hold) _ _ = true; decide +kernel)) (fun _ _ _ _ _ => (mgc_var sc__law_tests_hold.nd rfl (.inl rfl) (by decide))) (fun _ _ _ _ _ => (mts_one (mt_cmp (op_eqD hr.units) os_eq (me_ix ix_seq os_ix (me_var 1) (me_var 5)) (me_ix ix_seq os_ix (me_var 1) (me_var 4)) (nomark _)))) (fun _ _ _ _ _ => (me_var 5))) ma_nil)) (mg_sub set_list ss_list (me_var 3) (me_var 4)))))
    (mb_cons (ms_set (i := 6) sc__law_tests_hold.nd rfl (.inl rfl) (me_lst (ma_cons (me_var 1) (ma_cons (me_op op_addAll os_add (me_var 1) (me_tup (ma_cons me_int ma_nil))) (ma_cons (me_op op_addAll os_add (me_var 1) (me_tup (ma_cons (me_var 2) ma_nil))) (ma_cons (me_slice (me_var 1) mo_none (mo_some (me_op op_sub os_sub (me_var 2) me_int))) (ma_cons me_non (ma_cons me_str (ma_cons me_int (ma_cons (me_var 2) ma_nil))))))))))
    (mb_cons (ms_set (i := 6) sc__law_tests_hold.nd rfl (.inl rfl) (me_op op_addAll os_add (me_var 6) (me_lst (ma_cons (me_callTy call_tuple_of cs_tuple T.b_tuple (ma_cons (me_var 3) ma_nil)) (ma_cons (me_callTy call_tuple_of cs_tuple T.b_tuple (ma_cons (me_lc rfl sc__law_tests_hold.nd (mi_range1 T.b_range (ma_cons (me_var 2) ma_nil)) (blkOk_by (own := [("k", 4)]) (by show blkC N__law_tests_hold (defScope s__law_tests_hold) _ _ = true; decide +kernel)) (fun _ _ _ _ _ => (mgc_var sc__law_tests_hold.nd rfl (.inl rfl) (by decide))) (fun _ _ _ _ _ => mts_nil) (fun _ _ _ _ _ => (me_callB (call_max2 rfl) cs_max2 T.b_max (ma_cons me_int (ma_cons (me_op op_sub os_sub (me_var 4) me_int) ma_nil))))) ma_nil)) (ma_cons (me_op op_addAll os_add (me_tup (ma_cons me_bl ma_nil)) (me_slice (me_var 1) (mo_some me_int) mo_none)) ma_nil))))))
    (mb_cons (ms_for po rfl (mi_range1 T.b_range (ma_cons me_int ma_nil)) (mg_var sc__law_tests_hold.nd rfl (.inl rfl))
      (mb_cons (ms_set (i := 8) sc__law_tests_hold.nd rfl (.inl rfl) (me_call (w__law_take T) (hr.mono (by decide)) T.d__law_take.mgf T.d__law_take.fn.kp T.d__law_take.bd tk (ma_cons (me_var 0) (ma_cons (me_var 2) ma_nil))))
    (mb_cons (ms_set (i := 9) sc__law_tests_hold.nd rfl (.inl rfl) (me_ix ix_seq os_ix (me_var 1) (me_call (w__law_take T) (hr.mono (by decide)) T.d__law_take.mgf T.d__law_take.fn.kp T.d__law_take.bd tk (ma_cons (me_var 0) (ma_cons (me_var 2) ma_nil)))))
    (mb_cons (ms_set (i := 10) sc__law_tests_hold.nd rfl (.inl rfl) (me_lst (ma_cons (me_un un_neg us_neg me_int) (ma_cons (me_var 2) (ma_cons (me_var 8) (ma_cons (me_op op_addAll os_add (me_var 8) me_int) (ma_cons me_int (ma_cons (me_var 9) (ma_cons me_non (ma_cons me_bl (ma_cons me_bl (ma_cons me_str (ma_cons (me_tup (ma_cons me_int ma_nil)) (ma_cons (me_un un_neg us_neg (me_var 2)) ma_nil))))))))))))))
    (mb_one (ms_expr (me_meth PySem.F.plainAttrs_list PySem.F.slot_list_append PySem.F.type_list_append mt_append ms_append (me_var 6) (ma_cons (me_op op_addAll os_add (me_op op_addAll os_add (me_slice (me_var 1) mo_none (mo_some (me_var 8))) (me_tup (ma_cons (me_ix ix_seq os_ix (me_var 10) (me_call (w__law_take T) (hr.mono (by decide)) T.d__law_take.mgf T.d__law_take.fn.kp T.d__law_take.bd tk (ma_cons (me_var 0) (ma_cons me_int ma_nil)))) ma_nil))) (me_slice (me_var 1) (mo_some (me_op op_addAll os_add (me_var 8) me_int)) mo_none)) ma_nil))))))))
    (mb_cons (ms_for po rfl (mi_val (me_var 6)) (mg_var sc__law_tests_hold.nd rfl (.inl rfl))
      (mb_one (ms_for po rfl (mi_val (me_lst (ma_cons (me_var 2) (ma_cons (me_op op_addAll os_add (me_var 2) me_int) (ma_cons (me_callB (call_max2 rfl) cs_max2 T.b_max (ma_cons me_int (ma_cons (me_op op_sub os_sub (me_var 2) me_int) ma_nil))) ma_nil))))) (mg_var sc__law_tests_hold.nd rfl (.inl rfl))
      (mb_one (ms_if (mt_not (mt_truth ts_truth (me_call (w__law_is_truth T) (hr.mono (by decide)) T.d__law_is_truth.mgf T.d__law_is_truth.fn.kp T.d__law_is_truth.bd tk (ma_cons (me_call (w_is_labels T) (hr.mono (by decide)) T.d_is_labels.mgf T.d_is_labels.fn.kp T.d_is_labels.bd tk (ma_cons (me_var 11) (ma_cons (me_var 12) ma_nil))) (ma_cons (me_call (w__law_is_labels T) (hr.mono (by decide)) T.d__law_is_labels.mgf T.d__law_is_labels.fn.kp T.d__law_is_labels.bd tk (ma_cons (me_var 11) (ma_cons (me_var 12) ma_nil))) ma_nil)))))
      (mb_one (ms_ret me_bl))
      mb_nil)))))
    (mb_one (ms_ret me_bl)))))))))
theorem w__law_breaks_hold (T : Txt K mg) : FnOk P0 w K mg base (L2.CX P0 w) 3 T.f__law_breaks_hold T.fd__law_breaks_hold ["labels", "perms"] (spF K mg 2 c__law_breaks_hold) := by
  refine fn_ok (n := 4) (m := m__law_breaks_hold) T.d__law_breaks_hold.fn sc__law_breaks_hold rfl rfl fun cdv A outer s H E hr => ?_
  have tk : Takes (cxOf (L2.CX P0 w) P0 w K mg base N__law_breaks_hold "_law_breaks_hold" (defScope s__law_breaks_hold) T.f__law_breaks_hold cdv A outer s H E) (fun cls d _ H => E cls d H) := takes_of rfl rfl rfl rfl
  have po := passes_of (X := cxOf (L2.CX P0 w) P0 w K mg base N__law_breaks_hold "_law_breaks_hold" (defScope s__law_breaks_hold) T.f__law_breaks_hold cdv A outer s H E) rfl
  exact (mb_cons (ms_set (i := 2) sc__law_breaks_hold.nd rfl (.inl rfl) (me_call (w__law_first_break T) (hr.mono (by decide)) T.d__law_first_break.mgf T.d__law_first_break.fn.kp T.d__law_first_break.bd tk (ma_cons (me_var 0) (ma_cons (me_var 1) ma_nil))))
    (mb_cons (ms_set (i := 3) sc__law_breaks_hold.nd rfl (.inl rfl) (me_call (w_broken T) (hr.mono (by decide)) T.d_broken.mgf T.d_broken.fn.kp T.d_broken.bd tk (ma_cons (me_var 0) (ma_cons (me_var 1) ma_nil))))
    (mb_cons (ms_if (mt_cmp op_isN os_is (me_var 2) me_non (nomark _))
      (mb_one (ms_ret (me_cmp op_isN os_is (me_var 3) me_non (nomark _))))
      mb_nil)
    (mb_one (ms_ret (me_call (w__law_is_row T) (hr.mono (by decide)) T.d__law_is_row.mgf T.d__law_is_row.fn.kp T.d__law_is_row.bd tk (ma_cons (me_var 3) (ma_cons (me_var 2) ma_nil))))))))
theorem w_law (T : Txt K mg) : FnG P0 w K mg base 6 T.f_law T.fd_law ["script"] (spF K mg 1 (noX c_law)) := by
  refine fn_okG (n := 11) (m := m_law) T.d_law.fn sc_law rfl rfl fun cdv A outer s H hr => ?_
  have tk : Takes (cxOf (L2.CX P0 w) P0 w K mg base N_law "law" (defScope s_law) T.f_law cdv A outer s H (fun _ _ _ => False)) (fun _ _ _ _ => False) := takes_of rfl rfl rfl rfl
  have po := passes_of (X := cxOf (L2.CX P0 w) P0 w K mg base N_law "law" (defScope s_law) T.f_law cdv A outer s H (fun _ _ _ => False)) rfl
  exact (mb_cons (ms_set (i := 1) sc_law.nd rfl (.inl rfl) (me_call (w__law_bag T) (hr.mono (by decide)).room T.d__law_bag.mgf T.d__law_bag.fn.kp T.d__law_bag.bd tk (ma_cons (me_var 0) (ma_cons me_int ma_nil))))
    (mb_cons (ms_set (i := 2) sc_law.nd rfl (.inl rfl) (me_op op_addAll os_add me_int (me_call (w__law_take T) (hr.mono (by decide)).room T.d__law_take.mgf T.d__law_take.fn.kp T.d__law_take.bd tk (ma_cons (me_var 1) (ma_cons me_int ma_nil)))))
    (mb_cons (ms_if (mt_cmp (op_eqD hr.room.units) os_eq (me_call (w__law_take T) (hr.mono (by decide)).room T.d__law_take.mgf T.d__law_take.fn.kp T.d__law_take.bd tk (ma_cons (me_var 1) (ma_cons me_int ma_nil))) me_int (nomark _))
      (mb_one (ms_set (i := 2) sc_law.nd rfl (.inl rfl) (me_op op_addAll os_add me_int (me_call (w__law_take T) (hr.mono (by decide)).room T.d__law_take.mgf T.d__law_take.fn.kp T.d__law_take.bd tk (ma_cons (me_var 1) (ma_cons me_int ma_nil))))))
      mb_nil)
    (mb_cons (ms_set (i := 3) sc_law.nd rfl (.inr rfl) (me_call (w__law_partition T) (hr.mono (by decide)).room T.d__law_partition.mgf T.d__law_partition.fn.kp T.d__law_partition.bd tk (ma_cons (me_call (w__law_bag T) (hr.mono (by decide)).room T.d__law_bag.mgf T.d__law_bag.fn.kp T.d__law_bag.bd tk (ma_cons (me_var 0) (ma_cons me_int ma_nil))) (ma_cons (me_var 2) ma_nil))))
    (mb_cons (ms_set (i := 4) sc_law.nd rfl (.inl rfl) (me_call (w__law_partition T) (hr.mono (by decide)).room T.d__law_partition.mgf T.d__law_partition.fn.kp T.d__law_partition.bd tk (ma_cons (me_call (w__law_bag T) (hr.mono (by decide)).room T.d__law_bag.mgf T.d__law_bag.fn.kp T.d__law_bag.bd tk (ma_cons (me_var 0) (ma_cons me_int ma_nil))) (ma_cons (me_var 2) ma_nil))))
    (mb_cons (ms_set (i := 5) sc_law.nd rfl (.inl rfl) (me_call (w__law_take T) (hr.mono (by decide)).room T.d__law_take.mgf T.d__law_take.fn.kp T.d__law_take.bd tk (ma_cons (me_var 1) (ma_cons me_int ma_nil))))
    (mb_cons (ms_if (mt_cmp (op_eqD hr.room.units) os_eq (me_var 5) me_int (nomark _))
      (mb_one (ms_set (i := 4) sc_law.nd rfl (.inl rfl) (me_call (w__law_meet T) (hr.mono (by decide)).room T.d__law_meet.mgf T.d__law_meet.fn.kp T.d__law_meet.bd tk (ma_cons (me_var 3) (ma_cons (me_var 4) ma_nil)))))
      mb_nil)
    (mb_cons (ms_if (mt_cmp (op_eqD hr.room.units) os_eq (me_var 5) me_int (nomark _))
      (mb_one (ms_set (i := 4) sc_law.nd rfl (.inl rfl) (me_call (w__law_join T) (hr.mono (by decide)).room T.d__law_join.mgf T.d__law_join.fn.kp T.d__law_join.bd tk (ma_cons (me_var 3) (ma_cons (me_var 4) ma_nil)))))
      mb_nil)
    (mb_cons (ms_set (i := 6) sc_law.nd rfl (.inl rfl) (me_call (w__law_take T) (hr.mono (by decide)).room T.d__law_take.mgf T.d__law_take.fn.kp T.d__law_take.bd tk (ma_cons (me_var 1) (ma_cons me_int ma_nil))))
    (mb_cons (ms_set (i := 7) sc_law.nd rfl (.inr rfl) (me_cmp (op_eqD hr.room.units) os_eq (me_call (w__law_take T) (hr.mono (by decide)).room T.d__law_take.mgf T.d__law_take.fn.kp T.d__law_take.bd tk (ma_cons (me_var 1) (ma_cons me_int ma_nil))) me_int (nomark _)))
    (mb_cons (ms_set (i := 8) sc_law.nd rfl (.inl rfl) (me_callTy call_tuple_of cs_tuple T.b_tuple (ma_cons (me_lc rfl sc_law.nd (mi_range1 T.b_range (ma_cons (me_var 6) ma_nil)) (blkOk_by (own := [("k", 9)]) (by show blkC N_law (defScope s_law) _ _ = true; decide +kernel)) (fun _ _ _ _ _ => (mgc_var sc_law.nd rfl (.inl rfl) (by decide))) (fun _ _ _ _ _ => mts_nil) (fun _ _ _ _ _ => (me_call (w__law_moving T) (hr.mono (by decide)).room T.d__law_moving.mgf T.d__law_moving.fn.kp T.d__law_moving.bd takes0 (ma_cons (me_call (w__law_bag T) (hr.mono (by decide)).room T.d__law_bag.mgf T.d__law_bag.fn.kp T.d__law_bag.bd takes0 (ma_cons (me_var 0) (ma_cons (me_op op_addAll os_add me_int (me_var 9)) ma_nil))) (ma_cons (me_var 3) (ma_cons (me_var 7) ma_nil)))))) ma_nil)))
    (mb_cons (ms_if (mt_not (mt_truth ts_truth (me_call (w__law_pairs_hold T) (hr.mono (by decide)).room T.d__law_pairs_hold.mgf T.d__law_pairs_hold.fn.kp T.d__law_pairs_hold.bd tk (ma_cons (me_var 3) (ma_cons (me_var 4) ma_nil)))))
      (mb_one (ms_ret me_bl))
      mb_nil)
    (mb_cons (ms_if (mt_not (mt_truth ts_truth (me_callG (w__law_classes_hold T) (hr.mono (by decide)) T.d__law_classes_hold.mgf T.d__law_classes_hold.fn.kp T.d__law_classes_hold.bd (ma_cons (me_call (w__law_bag T) (hr.mono (by decide)).room T.d__law_bag.mgf T.d__law_bag.fn.kp T.d__law_bag.bd tk (ma_cons (me_var 0) (ma_cons me_int ma_nil))) (ma_cons (me_var 3) ma_nil)))))
      (mb_one (ms_ret me_bl))
      mb_nil)
    (mb_cons (ms_if (mt_not (mt_truth ts_truth (me_callG (w__law_classes_hold T) (hr.mono (by decide)) T.d__law_classes_hold.mgf T.d__law_classes_hold.fn.kp T.d__law_classes_hold.bd (ma_cons (me_call (w__law_bag T) (hr.mono (by decide)).room T.d__law_bag.mgf T.d__law_bag.fn.kp T.d__law_bag.bd tk (ma_cons (me_var 0) (ma_cons me_int ma_nil))) (ma_cons (me_var 4) ma_nil)))))
      (mb_one (ms_ret me_bl))
      mb_nil)
    (mb_cons (ms_if (mt_not (mt_truth ts_truth (me_call (w__law_tests_hold T) (hr.mono (by decide)).room T.d__law_tests_hold.mgf T.d__law_tests_hold.fn.kp T.d__law_tests_hold.bd tk (ma_cons (me_call (w__law_bag T) (hr.mono (by decide)).room T.d__law_bag.mgf T.d__law_bag.fn.kp T.d__law_bag.bd tk (ma_cons (me_var 0) (ma_cons me_int ma_nil))) (ma_cons (me_var 3) ma_nil)))))
      (mb_one (ms_ret me_bl))
      mb_nil)
    (mb_cons (ms_if (mt_not (mt_truth ts_truth (me_call (w__law_tests_hold T) (hr.mono (by decide)).room T.d__law_tests_hold.mgf T.d__law_tests_hold.fn.kp T.d__law_tests_hold.bd tk (ma_cons (me_call (w__law_bag T) (hr.mono (by decide)).room T.d__law_bag.mgf T.d__law_bag.fn.kp T.d__law_bag.bd tk (ma_cons (me_var 0) (ma_cons me_int ma_nil))) (ma_cons (me_var 4) ma_nil)))))
      (mb_one (ms_ret me_bl))
      mb_nil)
    (mb_cons (ms_for po rfl (mi_val (me_lst (ma_cons (me_var 3) (ma_cons (me_var 4) (ma_cons (me_call (w__law_meet T) (hr.mono (by decide)).room T.d__law_meet.mgf T.d__law_meet.fn.kp T.d__law_meet.bd tk (ma_cons (me_var 3) (ma_cons (me_var 4) ma_nil))) ma_nil))))) (mg_var sc_law.nd rfl (.inl rfl))
      (mb_one (ms_if (mt_not (mt_truth ts_truth (me_call (w__law_breaks_hold T) (hr.mono (by decide)).room T.d__law_breaks_hold.mgf T.d__law_breaks_hold.fn.kp T.d__law_breaks_hold.bd tk (ma_cons (me_var 10) (ma_cons (me_var 8) ma_nil)))))
      (mb_one (ms_ret me_bl))
      mb_nil)))
    (mb_one (ms_ret (me_and (me_call (w__law_breaks_hold T) (hr.mono (by decide)).room T.d__law_breaks_hold.mgf T.d__law_breaks_hold.fn.kp T.d__law_breaks_hold.bd tk (ma_cons (me_var 3) (ma_cons (me_slice (me_var 8) (mo_some me_int) mo_none) ma_nil))) (me_one (me_call (w__law_pairs_hold T) (hr.mono (by decide)).room T.d__law_pairs_hold.mgf T.d__law_pairs_hold.fn.kp T.d__law_pairs_hold.bd tk (ma_cons (me_var 4) (ma_cons (me_var 3) ma_nil))))))))))))))))))))))))
end
end Law

set_option maxHeartbeats 4000000
/-! printed by mk.py: what the top leaves, the end -/
namespace Law
open PySem PySem.Spec PyProof.Rows L2 Rf
def clsInit : Stmt → Stmt
  | .ClassDef _ _ _ body _ _ _ _ _ _ _ => body.getD 0 (.Pass ⟨0,0,0,0⟩)
  | s => s
abbrev si_InvalidLabels : Stmt := clsInit (topS 4)
abbrev F_InvalidLabels (cc c : Addr) : NdefX.NF := ⟨"__init__", "InvalidLabels.__init__", defArgs si_InvalidLabels, defBody si_InvalidLabels, defScope si_InvalidLabels, [("__class__", cc)], c⟩
theorem init_InvalidLabels {K : PySem.W.Frag} {mg : Str → Option Value} {f cc c D : Addr} {doc pm ctv oc : Value} {od : Option Addr} {osl : Array (Option Value)} (lk : K.lookup f = some ⟨oc, od, .func ((F_InvalidLabels cc c).fd doc pm ctv), osl⟩) (W : SupK P0 K mg (F_InvalidLabels cc c) f cc D "self")
    (hno : PySem.W.nsIn K cStatics "thirdparty.any" = some none) (w : World) (base : Heap) (CX : CXT) : FnOk P0 w K mg base CX 1 f ((F_InvalidLabels cc c).fd doc pm ctv) ["self", "value"] (spX K D ["value"]) :=
  init1 lk W (show NdefX.NScope ["self", "value", "__class__"] ["self", "value"] ["__class__"] (defScope si_InvalidLabels) from NdefX.nscope_by (by decide +kernel)) hno rfl (fun _ => rfl) (fun _ => rfl) (fun _ => rfl) (fun _ => rfl) (by decide) (by decide) (by decide) (by decide)
theorem bd_InvalidLabels {K : PySem.W.Frag} {cc c : Addr} {doc pm ctv : Value} : Binds K ((F_InvalidLabels cc c).fd doc pm ctv) ["self", "value"] [] := .all fun us hl => match us, hl with | [_, _], _ => rfl
theorem txt_mk {K : PySem.W.Frag} {mg : Str → Option Value} {h : Heap} (X : K.In h) (G : h.Ns mainGlobals mg)
  {od0 od1 od2 od3 od4 od5 od6 od7 od8 od9 od10 od11 od12 od13 od14 od15 od16 od17 od18 od19 od20 od21 od22 od23 od24 od25 od26 od27 od28 od29 od30 od31 od32 od33 od34 : Option Addr}
  {an0 an1 an2 an3 an4 an5 an6 an7 an8 an9 an10 an11 an12 an13 an14 an15 an16 an17 an18 an19 an20 an21 an22 an23 an24 an25 an26 an27 an28 an29 an30 an31 an32 an33 an34 : Option Addr}
  {sl0 sl1 sl2 sl3 sl4 sl5 sl6 sl7 sl8 sl9 sl10 sl11 sl12 sl13 sl14 sl15 sl16 sl17 sl18 sl19 sl20 sl21 sl22 sl23 sl24 sl25 sl26 sl27 sl28 sl29 sl30 sl31 sl32 sl33 sl34 : Array (Option Value)}
  {oc0 kV0 dc0 pm0 cd0 ct0 oc1 kV1 dc1 pm1 cd1 ct1 oc2 kV2 dc2 pm2 cd2 ct2 oc3 kV3 dc3 pm3 cd3 ct3 oc4 kV4 dc4 pm4 cd4 ct4 oc5 kV5 dc5 pm5 cd5 ct5 oc6 kV6 dc6 pm6 cd6 ct6 oc7 kV7 dc7 pm7 cd7 ct7 oc8 kV8 dc8 pm8 cd8 ct8 oc9 kV9 dc9 pm9 cd9 ct9 oc10 kV10 dc10 pm10 cd10 ct10 oc11 kV11 dc11 pm11 cd11 ct11 oc12 kV12 dc12 pm12 cd12 ct12 oc13 kV13 dc13 pm13 cd13 ct13 oc14 kV14 dc14 pm14 cd14 ct14 oc15 kV15 dc15 pm15 cd15 ct15 oc16 kV16 dc16 pm16 cd16 ct16 oc17 kV17 dc17 pm17 cd17 ct17 oc18 kV18 dc18 pm18 cd18 ct18 oc19 kV19 dc19 pm19 cd19 ct19 oc20 kV20 dc20 pm20 cd20 ct20 oc21 kV21 dc21 pm21 cd21 ct21 oc22 kV22 dc22 pm22 cd22 ct22 oc23 kV23 dc23 pm23 cd23 ct23 oc24 kV24 dc24 pm24 cd24 ct24 oc25 kV25 dc25 pm25 cd25 ct25 oc26 kV26 dc26 pm26 cd26 ct26 oc27 kV27 dc27 pm27 cd27 ct27 oc28 kV28 dc28 pm28 cd28 ct28 oc29 kV29 dc29 pm29 cd29 ct29 oc30 kV30 dc30 pm30 cd30 ct30 oc31 kV31 dc31 pm31 cd31 ct31 oc32 kV32 dc32 pm32 cd32 ct32 oc33 kV33 dc33 pm33 cd33 ct33 oc34 kV34 dc34 pm34 cd34 ct34 : Value}
  {f0 f1 f2 f3 f4 f5 f6 f7 f8 f9 f10 f11 f12 f13 f14 f15 f16 f17 f18 f19 f20 f21 f22 f23 f24 f25 f26 f27 f28 f29 f30 f31 f32 f33 f34 : Addr}
  {xE0 xI0 xN0 xC0 xD0 : Addr}
  {enm0 eqn0 efl0 : Str} {ebs0 ebm0 esb0 : List Value} {esn0 : List Str} {eab0 : Bool} {ecol0 : Option Bool} {edd0 ecd0 ecl0 eod0 : Option Addr} {ek00 ek10 ek20 ek30 ek50 : Option Value}
  {ecc0 ecv0 edo0 epm0 ect0 eoc0 : Value} {evs0 : Array Value} {ecs0 ecw0 eos0 : Array (Option Value)} {etf0 : Tok}
  {yA0 : Addr}
  {yA1 : Addr}
  {yA2 : Addr}
  {yA3 : Addr}
  (a0 : PySem.W.nsIn K mainGlobals "is_whole" = some (some (.ref f0))) (l0 : K.lookup f0 = some ⟨oc0, od0, .func (PySem.W.fnOf "is_whole" "is_whole" (defArgs s_is_whole) (defBody s_is_whole) (defScope s_is_whole) .none kV0 dc0 pm0 an0 cd0 ct0), sl0⟩) (c0 : PySem.W.codeIn K cd0 "is_whole" = true) (k0 : PySem.W.keepIn K (.ref f0) = true)
  (a1 : PySem.W.nsIn K mainGlobals "is_index" = some (some (.ref f1))) (l1 : K.lookup f1 = some ⟨oc1, od1, .func (PySem.W.fnOf "is_index" "is_index" (defArgs s_is_index) (defBody s_is_index) (defScope s_is_index) .none kV1 dc1 pm1 an1 cd1 ct1), sl1⟩) (c1 : PySem.W.codeIn K cd1 "is_index" = true) (k1 : PySem.W.keepIn K (.ref f1) = true)
  (a2 : PySem.W.nsIn K mainGlobals "is_row" = some (some (.ref f2))) (l2 : K.lookup f2 = some ⟨oc2, od2, .func (PySem.W.fnOf "is_row" "is_row" (defArgs s_is_row) (defBody s_is_row) (defScope s_is_row) .none kV2 dc2 pm2 an2 cd2 ct2), sl2⟩) (c2 : PySem.W.codeIn K cd2 "is_row" = true) (k2 : PySem.W.keepIn K (.ref f2) = true)
  (a3 : PySem.W.nsIn K mainGlobals "merged" = some (some (.ref f3))) (l3 : K.lookup f3 = some ⟨oc3, od3, .func (PySem.W.fnOf "merged" "merged" (defArgs s_merged) (defBody s_merged) (defScope s_merged) .none kV3 dc3 pm3 an3 cd3 ct3), sl3⟩) (c3 : PySem.W.codeIn K cd3 "merged" = true) (k3 : PySem.W.keepIn K (.ref f3) = true)
  (a4 : PySem.W.nsIn K mainGlobals "is_labels" = some (some (.ref f4))) (l4 : K.lookup f4 = some ⟨oc4, od4, .func (PySem.W.fnOf "is_labels" "is_labels" (defArgs s_is_labels) (defBody s_is_labels) (defScope s_is_labels) .none kV4 dc4 pm4 an4 cd4 ct4), sl4⟩) (c4 : PySem.W.codeIn K cd4 "is_labels" = true) (k4 : PySem.W.keepIn K (.ref f4) = true)
  (a5 : PySem.W.nsIn K mainGlobals "classes_of" = some (some (.ref f5))) (l5 : K.lookup f5 = some ⟨oc5, od5, .func (PySem.W.fnOf "classes_of" "classes_of" (defArgs s_classes_of) (defBody s_classes_of) (defScope s_classes_of) .none kV5 dc5 pm5 an5 cd5 ct5), sl5⟩) (c5 : PySem.W.codeIn K cd5 "classes_of" = true) (k5 : PySem.W.keepIn K (.ref f5) = true)
  (a6 : PySem.W.nsIn K mainGlobals "labels_of" = some (some (.ref f6))) (l6 : K.lookup f6 = some ⟨oc6, od6, .func (PySem.W.fnOf "labels_of" "labels_of" (defArgs s_labels_of) (defBody s_labels_of) (defScope s_labels_of) .none kV6 dc6 pm6 an6 cd6 ct6), sl6⟩) (c6 : PySem.W.codeIn K cd6 "labels_of" = true) (k6 : PySem.W.keepIn K (.ref f6) = true)
  (a7 : PySem.W.nsIn K mainGlobals "finer" = some (some (.ref f7))) (l7 : K.lookup f7 = some ⟨oc7, od7, .func (PySem.W.fnOf "finer" "finer" (defArgs s_finer) (defBody s_finer) (defScope s_finer) .none kV7 dc7 pm7 an7 cd7 ct7), sl7⟩) (c7 : PySem.W.codeIn K cd7 "finer" = true) (k7 : PySem.W.keepIn K (.ref f7) = true)
  (a8 : PySem.W.nsIn K mainGlobals "meet_labels" = some (some (.ref f8))) (l8 : K.lookup f8 = some ⟨oc8, od8, .func (PySem.W.fnOf "meet_labels" "meet_labels" (defArgs s_meet_labels) (defBody s_meet_labels) (defScope s_meet_labels) .none kV8 dc8 pm8 an8 cd8 ct8), sl8⟩) (c8 : PySem.W.codeIn K cd8 "meet_labels" = true) (k8 : PySem.W.keepIn K (.ref f8) = true)
  (a9 : PySem.W.nsIn K mainGlobals "join_labels" = some (some (.ref f9))) (l9 : K.lookup f9 = some ⟨oc9, od9, .func (PySem.W.fnOf "join_labels" "join_labels" (defArgs s_join_labels) (defBody s_join_labels) (defScope s_join_labels) .none kV9 dc9 pm9 an9 cd9 ct9), sl9⟩) (c9 : PySem.W.codeIn K cd9 "join_labels" = true) (k9 : PySem.W.keepIn K (.ref f9) = true)
  (a10 : PySem.W.nsIn K mainGlobals "broken" = some (some (.ref f10))) (l10 : K.lookup f10 = some ⟨oc10, od10, .func (PySem.W.fnOf "broken" "broken" (defArgs s_broken) (defBody s_broken) (defScope s_broken) .none kV10 dc10 pm10 an10 cd10 ct10), sl10⟩) (c10 : PySem.W.codeIn K cd10 "broken" = true) (k10 : PySem.W.keepIn K (.ref f10) = true)
  (a11 : PySem.W.nsIn K mainGlobals "_law_cell" = some (some (.ref f11))) (l11 : K.lookup f11 = some ⟨oc11, od11, .func (PySem.W.fnOf "_law_cell" "_law_cell" (defArgs s__law_cell) (defBody s__law_cell) (defScope s__law_cell) .none kV11 dc11 pm11 an11 cd11 ct11), sl11⟩) (c11 : PySem.W.codeIn K cd11 "_law_cell" = true) (k11 : PySem.W.keepIn K (.ref f11) = true)
  (a12 : PySem.W.nsIn K mainGlobals "_law_bag" = some (some (.ref f12))) (l12 : K.lookup f12 = some ⟨oc12, od12, .func (PySem.W.fnOf "_law_bag" "_law_bag" (defArgs s__law_bag) (defBody s__law_bag) (defScope s__law_bag) .none kV12 dc12 pm12 an12 cd12 ct12), sl12⟩) (c12 : PySem.W.codeIn K cd12 "_law_bag" = true) (k12 : PySem.W.keepIn K (.ref f12) = true)
  (a13 : PySem.W.nsIn K mainGlobals "_law_take" = some (some (.ref f13))) (l13 : K.lookup f13 = some ⟨oc13, od13, .func (PySem.W.fnOf "_law_take" "_law_take" (defArgs s__law_take) (defBody s__law_take) (defScope s__law_take) .none kV13 dc13 pm13 an13 cd13 ct13), sl13⟩) (c13 : PySem.W.codeIn K cd13 "_law_take" = true) (k13 : PySem.W.keepIn K (.ref f13) = true)
  (a14 : PySem.W.nsIn K mainGlobals "_law_shuffled" = some (some (.ref f14))) (l14 : K.lookup f14 = some ⟨oc14, od14, .func (PySem.W.fnOf "_law_shuffled" "_law_shuffled" (defArgs s__law_shuffled) (defBody s__law_shuffled) (defScope s__law_shuffled) .none kV14 dc14 pm14 an14 cd14 ct14), sl14⟩) (c14 : PySem.W.codeIn K cd14 "_law_shuffled" = true) (k14 : PySem.W.keepIn K (.ref f14) = true)
  (a15 : PySem.W.nsIn K mainGlobals "_law_is_whole" = some (some (.ref f15))) (l15 : K.lookup f15 = some ⟨oc15, od15, .func (PySem.W.fnOf "_law_is_whole" "_law_is_whole" (defArgs s__law_is_whole) (defBody s__law_is_whole) (defScope s__law_is_whole) .none kV15 dc15 pm15 an15 cd15 ct15), sl15⟩) (c15 : PySem.W.codeIn K cd15 "_law_is_whole" = true) (k15 : PySem.W.keepIn K (.ref f15) = true)
  (a16 : PySem.W.nsIn K mainGlobals "_law_is_truth" = some (some (.ref f16))) (l16 : K.lookup f16 = some ⟨oc16, od16, .func (PySem.W.fnOf "_law_is_truth" "_law_is_truth" (defArgs s__law_is_truth) (defBody s__law_is_truth) (defScope s__law_is_truth) .none kV16 dc16 pm16 an16 cd16 ct16), sl16⟩) (c16 : PySem.W.codeIn K cd16 "_law_is_truth" = true) (k16 : PySem.W.keepIn K (.ref f16) = true)
  (a17 : PySem.W.nsIn K mainGlobals "_law_is_row" = some (some (.ref f17))) (l17 : K.lookup f17 = some ⟨oc17, od17, .func (PySem.W.fnOf "_law_is_row" "_law_is_row" (defArgs s__law_is_row) (defBody s__law_is_row) (defScope s__law_is_row) .none kV17 dc17 pm17 an17 cd17 ct17), sl17⟩) (c17 : PySem.W.codeIn K cd17 "_law_is_row" = true) (k17 : PySem.W.keepIn K (.ref f17) = true)
  (a18 : PySem.W.nsIn K mainGlobals "_law_is_rows" = some (some (.ref f18))) (l18 : K.lookup f18 = some ⟨oc18, od18, .func (PySem.W.fnOf "_law_is_rows" "_law_is_rows" (defArgs s__law_is_rows) (defBody s__law_is_rows) (defScope s__law_is_rows) .none kV18 dc18 pm18 an18 cd18 ct18), sl18⟩) (c18 : PySem.W.codeIn K cd18 "_law_is_rows" = true) (k18 : PySem.W.keepIn K (.ref f18) = true)
  (a19 : PySem.W.nsIn K mainGlobals "_law_partition" = some (some (.ref f19))) (l19 : K.lookup f19 = some ⟨oc19, od19, .func (PySem.W.fnOf "_law_partition" "_law_partition" (defArgs s__law_partition) (defBody s__law_partition) (defScope s__law_partition) .none kV19 dc19 pm19 an19 cd19 ct19), sl19⟩) (c19 : PySem.W.codeIn K cd19 "_law_partition" = true) (k19 : PySem.W.keepIn K (.ref f19) = true)
  (a20 : PySem.W.nsIn K mainGlobals "_law_classes" = some (some (.ref f20))) (l20 : K.lookup f20 = some ⟨oc20, od20, .func (PySem.W.fnOf "_law_classes" "_law_classes" (defArgs s__law_classes) (defBody s__law_classes) (defScope s__law_classes) .none kV20 dc20 pm20 an20 cd20 ct20), sl20⟩) (c20 : PySem.W.codeIn K cd20 "_law_classes" = true) (k20 : PySem.W.keepIn K (.ref f20) = true)
  (a21 : PySem.W.nsIn K mainGlobals "_law_keeping" = some (some (.ref f21))) (l21 : K.lookup f21 = some ⟨oc21, od21, .func (PySem.W.fnOf "_law_keeping" "_law_keeping" (defArgs s__law_keeping) (defBody s__law_keeping) (defScope s__law_keeping) .none kV21 dc21 pm21 an21 cd21 ct21), sl21⟩) (c21 : PySem.W.codeIn K cd21 "_law_keeping" = true) (k21 : PySem.W.keepIn K (.ref f21) = true)
  (a22 : PySem.W.nsIn K mainGlobals "_law_moving" = some (some (.ref f22))) (l22 : K.lookup f22 = some ⟨oc22, od22, .func (PySem.W.fnOf "_law_moving" "_law_moving" (defArgs s__law_moving) (defBody s__law_moving) (defScope s__law_moving) .none kV22 dc22 pm22 an22 cd22 ct22), sl22⟩) (c22 : PySem.W.codeIn K cd22 "_law_moving" = true) (k22 : PySem.W.keepIn K (.ref f22) = true)
  (a23 : PySem.W.nsIn K mainGlobals "_law_finer" = some (some (.ref f23))) (l23 : K.lookup f23 = some ⟨oc23, od23, .func (PySem.W.fnOf "_law_finer" "_law_finer" (defArgs s__law_finer) (defBody s__law_finer) (defScope s__law_finer) .none kV23 dc23 pm23 an23 cd23 ct23), sl23⟩) (c23 : PySem.W.codeIn K cd23 "_law_finer" = true) (k23 : PySem.W.keepIn K (.ref f23) = true)
  (a24 : PySem.W.nsIn K mainGlobals "_law_meet" = some (some (.ref f24))) (l24 : K.lookup f24 = some ⟨oc24, od24, .func (PySem.W.fnOf "_law_meet" "_law_meet" (defArgs s__law_meet) (defBody s__law_meet) (defScope s__law_meet) .none kV24 dc24 pm24 an24 cd24 ct24), sl24⟩) (c24 : PySem.W.codeIn K cd24 "_law_meet" = true) (k24 : PySem.W.keepIn K (.ref f24) = true)
  (a25 : PySem.W.nsIn K mainGlobals "_law_join" = some (some (.ref f25))) (l25 : K.lookup f25 = some ⟨oc25, od25, .func (PySem.W.fnOf "_law_join" "_law_join" (defArgs s__law_join) (defBody s__law_join) (defScope s__law_join) .none kV25 dc25 pm25 an25 cd25 ct25), sl25⟩) (c25 : PySem.W.codeIn K cd25 "_law_join" = true) (k25 : PySem.W.keepIn K (.ref f25) = true)
  (a26 : PySem.W.nsIn K mainGlobals "_law_is_labels" = some (some (.ref f26))) (l26 : K.lookup f26 = some ⟨oc26, od26, .func (PySem.W.fnOf "_law_is_labels" "_law_is_labels" (defArgs s__law_is_labels) (defBody s__law_is_labels) (defScope s__law_is_labels) .none kV26 dc26 pm26 an26 cd26 ct26), sl26⟩) (c26 : PySem.W.codeIn K cd26 "_law_is_labels" = true) (k26 : PySem.W.keepIn K (.ref f26) = true)
  (a27 : PySem.W.nsIn K mainGlobals "_law_first_break" = some (some (.ref f27))) (l27 : K.lookup f27 = some ⟨oc27, od27, .func (PySem.W.fnOf "_law_first_break" "_law_first_break" (defArgs s__law_first_break) (defBody s__law_first_break) (defScope s__law_first_break) .none kV27 dc27 pm27 an27 cd27 ct27), sl27⟩) (c27 : PySem.W.codeIn K cd27 "_law_first_break" = true) (k27 : PySem.W.keepIn K (.ref f27) = true)
  (a28 : PySem.W.nsIn K mainGlobals "_law_pairs_hold" = some (some (.ref f28))) (l28 : K.lookup f28 = some ⟨oc28, od28, .func (PySem.W.fnOf "_law_pairs_hold" "_law_pairs_hold" (defArgs s__law_pairs_hold) (defBody s__law_pairs_hold) (defScope s__law_pairs_hold) .none kV28 dc28 pm28 an28 cd28 ct28), sl28⟩) (c28 : PySem.W.codeIn K cd28 "_law_pairs_hold" = true) (k28 : PySem.W.keepIn K (.ref f28) = true)
  (a29 : PySem.W.nsIn K mainGlobals "_law_no_classes" = some (some (.ref f29))) (l29 : K.lookup f29 = some ⟨oc29, od29, .func (PySem.W.fnOf "_law_no_classes" "_law_no_classes" (defArgs s__law_no_classes) (defBody s__law_no_classes) (defScope s__law_no_classes) .none kV29 dc29 pm29 an29 cd29 ct29), sl29⟩) (c29 : PySem.W.codeIn K cd29 "_law_no_classes" = true) (k29 : PySem.W.keepIn K (.ref f29) = true)
  (a30 : PySem.W.nsIn K mainGlobals "_law_refused" = some (some (.ref f30))) (l30 : K.lookup f30 = some ⟨oc30, od30, .func (PySem.W.fnOf "_law_refused" "_law_refused" (defArgs s__law_refused) (defBody s__law_refused) (defScope s__law_refused) .none kV30 dc30 pm30 an30 cd30 ct30), sl30⟩) (c30 : PySem.W.codeIn K cd30 "_law_refused" = true) (k30 : PySem.W.keepIn K (.ref f30) = true)
  (a31 : PySem.W.nsIn K mainGlobals "_law_classes_hold" = some (some (.ref f31))) (l31 : K.lookup f31 = some ⟨oc31, od31, .func (PySem.W.fnOf "_law_classes_hold" "_law_classes_hold" (defArgs s__law_classes_hold) (defBody s__law_classes_hold) (defScope s__law_classes_hold) .none kV31 dc31 pm31 an31 cd31 ct31), sl31⟩) (c31 : PySem.W.codeIn K cd31 "_law_classes_hold" = true) (k31 : PySem.W.keepIn K (.ref f31) = true)
  (a32 : PySem.W.nsIn K mainGlobals "_law_tests_hold" = some (some (.ref f32))) (l32 : K.lookup f32 = some ⟨oc32, od32, .func (PySem.W.fnOf "_law_tests_hold" "_law_tests_hold" (defArgs s__law_tests_hold) (defBody s__law_tests_hold) (defScope s__law_tests_hold) .none kV32 dc32 pm32 an32 cd32 ct32), sl32⟩) (c32 : PySem.W.codeIn K cd32 "_law_tests_hold" = true) (k32 : PySem.W.keepIn K (.ref f32) = true)
  (a33 : PySem.W.nsIn K mainGlobals "_law_breaks_hold" = some (some (.ref f33))) (l33 : K.lookup f33 = some ⟨oc33, od33, .func (PySem.W.fnOf "_law_breaks_hold" "_law_breaks_hold" (defArgs s__law_breaks_hold) (defBody s__law_breaks_hold) (defScope s__law_breaks_hold) .none kV33 dc33 pm33 an33 cd33 ct33), sl33⟩) (c33 : PySem.W.codeIn K cd33 "_law_breaks_hold" = true) (k33 : PySem.W.keepIn K (.ref f33) = true)
  (a34 : PySem.W.nsIn K mainGlobals "law" = some (some (.ref f34))) (l34 : K.lookup f34 = some ⟨oc34, od34, .func (PySem.W.fnOf "law" "law" (defArgs s_law) (defBody s_law) (defScope s_law) .none kV34 dc34 pm34 an34 cd34 ct34), sl34⟩) (c34 : PySem.W.codeIn K cd34 "law" = true) (k34 : PySem.W.keepIn K (.ref f34) = true)
  (z0 : PySem.W.nsIn K mainGlobals "int" = some none)
  (z1 : PySem.W.nsIn K mainGlobals "isinstance" = some none)
  (z2 : PySem.W.nsIn K mainGlobals "bool" = some none)
  (z3 : PySem.W.nsIn K mainGlobals "tuple" = some none)
  (z4 : PySem.W.nsIn K mainGlobals "len" = some none)
  (z5 : PySem.W.nsIn K mainGlobals "min" = some none)
  (z6 : PySem.W.nsIn K mainGlobals "max" = some none)
  (z7 : PySem.W.nsIn K mainGlobals "enumerate" = some none)
  (z8 : PySem.W.nsIn K mainGlobals "list" = some none)
  (z9 : PySem.W.nsIn K mainGlobals "range" = some none)
  (z10 : PySem.W.nsIn K mainGlobals "all" = some none)
  (z11 : PySem.W.nsIn K mainGlobals "sum" = some none)
  (z12 : PySem.W.nsIn K mainGlobals "ValueError" = some none)
  (z13 : PySem.W.nsIn K mainGlobals "repr" = some none)
  (z14 : PySem.W.nsIn K mainGlobals "reversed" = some none)
  (ea0 : PySem.W.nsIn K mainGlobals "InvalidLabels" = some (some (.ref xE0)))
  (eb0 : K.lookup xE0 = some (excClassObj enm0 eqn0 xE0 xN0 ebs0 ebm0 true esn0 esb0 eab0 ecol0 edd0 ek00 ek10 ek20 ek30 ek50 "ValueError.__new__"))
  (ec0 : PySem.HandSPX.refsVE ebm0 = true)
  (ed0 : PySem.W.findIn K (.ref xE0) "__setattr__" = some (some (.builtin "object.__setattr__")))
  (ee0 : PySem.W.subIn K (.ref xE0) (.type "BaseException") = some true)
  (ef0 : PySem.W.typeIn K (.ref xE0) = some (.type "type"))
  (eg0 : PySem.W.keepIn K (.ref xE0) = true)
  (eh0 : PySem.W.mroIn K xE0 (.ref xE0) = some true)
  (ei0 : PySem.W.ks_superIn K xE0 xE0 "__init__" = some (some (.builtin "ValueError.__init__")))
  (ej0 : PySem.W.subIn K (.ref xE0) (.type "ValueError") = some true)
  (ek0 : PySem.W.findIn K (.ref xE0) "value" = some none)
  (el0 : PySem.W.findIn K (.ref xE0) "__init__" = some (some (.ref xI0)))
  (em0 : PySem.W.typeIn K (.ref xI0) = some (.type "function"))
  (eu0 : K.lookup xI0 = some ⟨eoc0, eod0, .func ((F_InvalidLabels xC0 xD0).fd edo0 epm0 ect0), eos0⟩)
  (en0 : K.lookup xD0 = some ⟨ecc0, ecd0, .fields evs0, ecs0⟩)
  (eo0 : evs0[2]? = some (.str efl0 etf0))
  (ep0 : ((P0.main.file : Str) == efl0) = true)
  (eq0 : K.lookup xC0 = some ⟨ecv0, ecl0, .cell (some (.ref xE0)), ecw0⟩)
  (er0 : PySem.W.hasDictIn K xE0 = true)
  (es0 : PySem.W.codeIn K (.ref xD0) "InvalidLabels.__init__" = true)
  (et0 : PySem.W.nsIn K mainGlobals "super" = some none)
  (ev0 : PySem.W.nsIn K cStatics "thirdparty.any" = some none)
  (ew0 : PySem.W.findIn K (.ref xE0) "__getattribute__" = some (some (.builtin "BaseException.__getattribute__")))
  (ex0 : PySem.W.findIn K (.ref xE0) "__getattr__" = some none)
  (ey0 : PySem.W.findIn K (.ref xE0) "__class__" = some (some (.builtin "object.__class__")))
  (ez0 : PySem.W.specialIn K (.builtin "object.__class__") "__get__" = some (some (.builtin "getset_descriptor.__get__")))
  (eA0 : PySem.W.takesIn K (.builtin "object.__class__") = some true)
  (eB0 : PySem.W.mroIn K xE0 (.type "object") = some true)
  (ya0 : PySem.W.nsIn K mainGlobals "InvalidLabels" = some (some (.ref yA0)))
  (ya1 : PySem.W.nsIn K mainGlobals "TumblerError" = some (some (.ref yA1)))
  (ya2 : PySem.W.nsIn K mainGlobals "InvalidPerm" = some (some (.ref yA2)))
  (ya3 : PySem.W.nsIn K mainGlobals "InvalidCycles" = some (some (.ref yA3)))
  (pa0 : PySem.W.exmOne K (.ref xE0) (.ref yA0) = some true)
  (pb0 : PySem.W.kitOne K (.ref xE0) (.ref yA1) = some true)
  (pb1 : PySem.W.kitOne K (.ref xE0) (.type "ValueError") = some true)
  (pb2 : PySem.W.kitOne K (.ref xE0) (.ref yA2) = some false)
  (pb3 : PySem.W.kitOne K (.ref xE0) (.ref yA3) = some false) : ∃ T : Txt K mg, T.fd_law = (PySem.W.fnOf "law" "law" (defArgs s_law) (defBody s_law) (defScope s_law) .none kV34 dc34 pm34 an34 cd34 ct34) := by
  have F0 := fun_mk (st := s_is_whole) l0 c0 k0
  have B0 := F0.binds (ps := ["value"]) fun _ _ _ _ _ _ us hl => match us, hl with | [_], _ => rfl
  have F1 := fun_mk (st := s_is_index) l1 c1 k1
  have B1 := F1.binds (ps := ["value", "limit"]) fun _ _ _ _ _ _ us hl => match us, hl with | [_, _], _ => rfl
  have F2 := fun_mk (st := s_is_row) l2 c2 k2
  have B2 := F2.binds (ps := ["value", "length"]) fun _ _ _ _ _ _ us hl => match us, hl with | [_, _], _ => rfl
  have F3 := fun_mk (st := s_merged) l3 c3 k3
  have B3 := F3.binds (ps := ["labels", "i", "j"]) fun _ _ _ _ _ _ us hl => match us, hl with | [_, _, _], _ => rfl
  have F4 := fun_mk (st := s_is_labels) l4 c4 k4
  have B4 := F4.binds (ps := ["value", "points"]) fun _ _ _ _ _ _ us hl => match us, hl with | [_, _], _ => rfl
  have F5 := fun_mk (st := s_classes_of) l5 c5 k5
  have B5 := F5.binds (ps := ["labels"]) fun _ _ _ _ _ _ us hl => match us, hl with | [_], _ => rfl
  have F6 := fun_mk (st := s_labels_of) l6 c6 k6
  have B6 := F6.binds (ps := ["classes", "points"]) fun _ _ _ _ _ _ us hl => match us, hl with | [_, _], _ => rfl
  have F7 := fun_mk (st := s_finer) l7 c7 k7
  have B7 := F7.binds (ps := ["first", "second"]) fun _ _ _ _ _ _ us hl => match us, hl with | [_, _], _ => rfl
  have F8 := fun_mk (st := s_meet_labels) l8 c8 k8
  have B8 := F8.binds (ps := ["first", "second"]) fun _ _ _ _ _ _ us hl => match us, hl with | [_, _], _ => rfl
  have F9 := fun_mk (st := s_join_labels) l9 c9 k9
  have B9 := F9.binds (ps := ["first", "second"]) fun _ _ _ _ _ _ us hl => match us, hl with | [_, _], _ => rfl
  have F10 := fun_mk (st := s_broken) l10 c10 k10
  have B10 := F10.binds (ps := ["labels", "perms"]) fun _ _ _ _ _ _ us hl => match us, hl with | [_, _], _ => rfl
  have F11 := fun_mk (st := s__law_cell) l11 c11 k11
  have B11 := F11.binds (ps := ["script", "k"]) fun _ _ _ _ _ _ us hl => match us, hl with | [_, _], _ => rfl
  have F12 := fun_mk (st := s__law_bag) l12 c12 k12
  have B12 := F12.binds (ps := ["script", "k"]) fun _ _ _ _ _ _ us hl => match us, hl with | [_, _], _ => rfl
  have F13 := fun_mk (st := s__law_take) l13 c13 k13
  have B13 := F13.binds (ps := ["bag", "size"]) fun _ _ _ _ _ _ us hl => match us, hl with | [_, _], _ => rfl
  have F14 := fun_mk (st := s__law_shuffled) l14 c14 k14
  have B14 := F14.binds (ps := ["bag", "many"]) fun _ _ _ _ _ _ us hl => match us, hl with | [_, _], _ => rfl
  have F15 := fun_mk (st := s__law_is_whole) l15 c15 k15
  have B15 := F15.binds (ps := ["value"]) fun _ _ _ _ _ _ us hl => match us, hl with | [_], _ => rfl
  have F16 := fun_mk (st := s__law_is_truth) l16 c16 k16
  have B16 := F16.binds (ps := ["actual", "due"]) fun _ _ _ _ _ _ us hl => match us, hl with | [_, _], _ => rfl
  have F17 := fun_mk (st := s__law_is_row) l17 c17 k17
  have B17 := F17.binds (ps := ["actual", "due"]) fun _ _ _ _ _ _ us hl => match us, hl with | [_, _], _ => rfl
  have F18 := fun_mk (st := s__law_is_rows) l18 c18 k18
  have B18 := F18.binds (ps := ["actual", "due"]) fun _ _ _ _ _ _ us hl => match us, hl with | [_, _], _ => rfl
  have F19 := fun_mk (st := s__law_partition) l19 c19 k19
  have B19 := F19.binds (ps := ["bag", "points"]) fun _ _ _ _ _ _ us hl => match us, hl with | [_, _], _ => rfl
  have F20 := fun_mk (st := s__law_classes) l20 c20 k20
  have B20 := F20.binds (ps := ["labels"]) fun _ _ _ _ _ _ us hl => match us, hl with | [_], _ => rfl
  have F21 := fun_mk (st := s__law_keeping) l21 c21 k21
  have B21 := F21.binds (ps := ["bag", "labels"]) fun _ _ _ _ _ _ us hl => match us, hl with | [_, _], _ => rfl
  have F22 := fun_mk (st := s__law_moving) l22 c22 k22
  have B22 := F22.binds (ps := ["bag", "labels", "strict"]) fun _ _ _ _ _ _ us hl => match us, hl with | [_, _, _], _ => rfl
  have F23 := fun_mk (st := s__law_finer) l23 c23 k23
  have B23 := F23.binds (ps := ["first", "second"]) fun _ _ _ _ _ _ us hl => match us, hl with | [_, _], _ => rfl
  have F24 := fun_mk (st := s__law_meet) l24 c24 k24
  have B24 := F24.binds (ps := ["first", "second"]) fun _ _ _ _ _ _ us hl => match us, hl with | [_, _], _ => rfl
  have F25 := fun_mk (st := s__law_join) l25 c25 k25
  have B25 := F25.binds (ps := ["first", "second"]) fun _ _ _ _ _ _ us hl => match us, hl with | [_, _], _ => rfl
  have F26 := fun_mk (st := s__law_is_labels) l26 c26 k26
  have B26 := F26.binds (ps := ["value", "points"]) fun _ _ _ _ _ _ us hl => match us, hl with | [_, _], _ => rfl
  have F27 := fun_mk (st := s__law_first_break) l27 c27 k27
  have B27 := F27.binds (ps := ["labels", "perms"]) fun _ _ _ _ _ _ us hl => match us, hl with | [_, _], _ => rfl
  have F28 := fun_mk (st := s__law_pairs_hold) l28 c28 k28
  have B28 := F28.binds (ps := ["first", "second"]) fun _ _ _ _ _ _ us hl => match us, hl with | [_, _], _ => rfl
  have F29 := fun_mk (st := s__law_no_classes) l29 c29 k29
  have B29 := F29.binds (ps := ["bag", "told", "points"]) fun _ _ _ _ _ _ us hl => match us, hl with | [_, _, _], _ => rfl
  have F30 := fun_mk (st := s__law_refused) l30 c30 k30
  have B30 := F30.binds (ps := ["value", "points"]) fun _ _ _ _ _ _ us hl => match us, hl with | [_, _], _ => rfl
  have F31 := fun_mk (st := s__law_classes_hold) l31 c31 k31
  have B31 := F31.binds (ps := ["bag", "labels"]) fun _ _ _ _ _ _ us hl => match us, hl with | [_, _], _ => rfl
  have F32 := fun_mk (st := s__law_tests_hold) l32 c32 k32
  have B32 := F32.binds (ps := ["bag", "labels"]) fun _ _ _ _ _ _ us hl => match us, hl with | [_, _], _ => rfl
  have F33 := fun_mk (st := s__law_breaks_hold) l33 c33 k33
  have B33 := F33.binds (ps := ["labels", "perms"]) fun _ _ _ _ _ _ us hl => match us, hl with | [_, _], _ => rfl
  have F34 := fun_mk (st := s_law) l34 c34 k34
  have B34 := F34.binds (ps := ["script"]) fun _ _ _ _ _ _ us hl => match us, hl with | [_], _ => rfl
  have SC0 := supC_of eb0 ec0 ed0 ee0 ef0 eg0 eh0 ei0 ej0
  have SK0 : SupK P0 K mg (F_InvalidLabels xC0 xD0) xI0 xC0 xE0 "self" := supK_of en0 eo0 ep0 eq0 er0 es0 (PySem.W.mg_none_of X G et0) rfl (by show (defScope si_InvalidLabels).names.lookup ("super" : Str) = _; decide +kernel) (by show (defScope si_InvalidLabels).names.lookup ("__class__" : Str) = _; decide +kernel) (by show (defScope si_InvalidLabels).names.lookup ("self" : Str) = _; decide +kernel) rfl (by decide +kernel)
  have EX0 := excC_of ew0 ex0 ee0 er0 ey0 ez0 eA0 eB0
  have EC0 : ErrC P0 K mg "InvalidLabels" xE0 xI0 ((F_InvalidLabels xC0 xD0).fd edo0 epm0 ect0) "self" "value" := ⟨PySem.W.mg_of X G ea0, SC0, ek0, el0, em0, bd_InvalidLabels, fun w base CX => init_InvalidLabels eu0 SK0 ev0 w base CX, EX0.1, EX0.2⟩
  exact ⟨⟨f0, _, ⟨F0, PySem.W.mg_of X G a0, B0⟩, f1, _, ⟨F1, PySem.W.mg_of X G a1, B1⟩, f2, _, ⟨F2, PySem.W.mg_of X G a2, B2⟩, f3, _, ⟨F3, PySem.W.mg_of X G a3, B3⟩, f4, _, ⟨F4, PySem.W.mg_of X G a4, B4⟩, f5, _, ⟨F5, PySem.W.mg_of X G a5, B5⟩, f6, _, ⟨F6, PySem.W.mg_of X G a6, B6⟩, f7, _, ⟨F7, PySem.W.mg_of X G a7, B7⟩, f8, _, ⟨F8, PySem.W.mg_of X G a8, B8⟩, f9, _, ⟨F9, PySem.W.mg_of X G a9, B9⟩, f10, _, ⟨F10, PySem.W.mg_of X G a10, B10⟩, f11, _, ⟨F11, PySem.W.mg_of X G a11, B11⟩, f12, _, ⟨F12, PySem.W.mg_of X G a12, B12⟩, f13, _, ⟨F13, PySem.W.mg_of X G a13, B13⟩, f14, _, ⟨F14, PySem.W.mg_of X G a14, B14⟩, f15, _, ⟨F15, PySem.W.mg_of X G a15, B15⟩, f16, _, ⟨F16, PySem.W.mg_of X G a16, B16⟩, f17, _, ⟨F17, PySem.W.mg_of X G a17, B17⟩, f18, _, ⟨F18, PySem.W.mg_of X G a18, B18⟩, f19, _, ⟨F19, PySem.W.mg_of X G a19, B19⟩, f20, _, ⟨F20, PySem.W.mg_of X G a20, B20⟩, f21, _, ⟨F21, PySem.W.mg_of X G a21, B21⟩, f22, _, ⟨F22, PySem.W.mg_of X G a22, B22⟩, f23, _, ⟨F23, PySem.W.mg_of X G a23, B23⟩, f24, _, ⟨F24, PySem.W.mg_of X G a24, B24⟩, f25, _, ⟨F25, PySem.W.mg_of X G a25, B25⟩, f26, _, ⟨F26, PySem.W.mg_of X G a26, B26⟩, f27, _, ⟨F27, PySem.W.mg_of X G a27, B27⟩, f28, _, ⟨F28, PySem.W.mg_of X G a28, B28⟩, f29, _, ⟨F29, PySem.W.mg_of X G a29, B29⟩, f30, _, ⟨F30, PySem.W.mg_of X G a30, B30⟩, f31, _, ⟨F31, PySem.W.mg_of X G a31, B31⟩, f32, _, ⟨F32, PySem.W.mg_of X G a32, B32⟩, f33, _, ⟨F33, PySem.W.mg_of X G a33, B33⟩, f34, _, ⟨F34, PySem.W.mg_of X G a34, B34⟩, PySem.W.mg_none_of X G z0, PySem.W.mg_none_of X G z1, PySem.W.mg_none_of X G z2, PySem.W.mg_none_of X G z3, PySem.W.mg_none_of X G z4, PySem.W.mg_none_of X G z5, PySem.W.mg_none_of X G z6, PySem.W.mg_none_of X G z7, PySem.W.mg_none_of X G z8, PySem.W.mg_none_of X G z9, PySem.W.mg_none_of X G z10, PySem.W.mg_none_of X G z11, PySem.W.mg_none_of X G z12, PySem.W.mg_none_of X G z13, PySem.W.mg_none_of X G z14, xE0, xI0, _, EC0, yA0, PySem.W.mg_of X G ya0, yA1, PySem.W.mg_of X G ya1, yA2, PySem.W.mg_of X G ya2, yA3, PySem.W.mg_of X G ya3, pa0, pb0, pb1, pb2, pb3⟩, rfl⟩
theorem all_mk {w : World} {K : PySem.W.Frag} {mg : Str → Option Value} {h : Heap} {fa : Addr} (X : K.In h) (G : h.Ns mainGlobals mg) (hfa : mg "law" = some (.ref fa))
  {od0 od1 od2 od3 od4 od5 od6 od7 od8 od9 od10 od11 od12 od13 od14 od15 od16 od17 od18 od19 od20 od21 od22 od23 od24 od25 od26 od27 od28 od29 od30 od31 od32 od33 od34 : Option Addr}
  {an0 an1 an2 an3 an4 an5 an6 an7 an8 an9 an10 an11 an12 an13 an14 an15 an16 an17 an18 an19 an20 an21 an22 an23 an24 an25 an26 an27 an28 an29 an30 an31 an32 an33 an34 : Option Addr}
  {sl0 sl1 sl2 sl3 sl4 sl5 sl6 sl7 sl8 sl9 sl10 sl11 sl12 sl13 sl14 sl15 sl16 sl17 sl18 sl19 sl20 sl21 sl22 sl23 sl24 sl25 sl26 sl27 sl28 sl29 sl30 sl31 sl32 sl33 sl34 : Array (Option Value)}
  {oc0 kV0 dc0 pm0 cd0 ct0 oc1 kV1 dc1 pm1 cd1 ct1 oc2 kV2 dc2 pm2 cd2 ct2 oc3 kV3 dc3 pm3 cd3 ct3 oc4 kV4 dc4 pm4 cd4 ct4 oc5 kV5 dc5 pm5 cd5 ct5 oc6 kV6 dc6 pm6 cd6 ct6 oc7 kV7 dc7 pm7 cd7 ct7 oc8 kV8 dc8 pm8 cd8 ct8 oc9 kV9 dc9 pm9 cd9 ct9 oc10 kV10 dc10 pm10 cd10 ct10 oc11 kV11 dc11 pm11 cd11 ct11 oc12 kV12 dc12 pm12 cd12 ct12 oc13 kV13 dc13 pm13 cd13 ct13 oc14 kV14 dc14 pm14 cd14 ct14 oc15 kV15 dc15 pm15 cd15 ct15 oc16 kV16 dc16 pm16 cd16 ct16 oc17 kV17 dc17 pm17 cd17 ct17 oc18 kV18 dc18 pm18 cd18 ct18 oc19 kV19 dc19 pm19 cd19 ct19 oc20 kV20 dc20 pm20 cd20 ct20 oc21 kV21 dc21 pm21 cd21 ct21 oc22 kV22 dc22 pm22 cd22 ct22 oc23 kV23 dc23 pm23 cd23 ct23 oc24 kV24 dc24 pm24 cd24 ct24 oc25 kV25 dc25 pm25 cd25 ct25 oc26 kV26 dc26 pm26 cd26 ct26 oc27 kV27 dc27 pm27 cd27 ct27 oc28 kV28 dc28 pm28 cd28 ct28 oc29 kV29 dc29 pm29 cd29 ct29 oc30 kV30 dc30 pm30 cd30 ct30 oc31 kV31 dc31 pm31 cd31 ct31 oc32 kV32 dc32 pm32 cd32 ct32 oc33 kV33 dc33 pm33 cd33 ct33 oc34 kV34 dc34 pm34 cd34 ct34 : Value}
  {f0 f1 f2 f3 f4 f5 f6 f7 f8 f9 f10 f11 f12 f13 f14 f15 f16 f17 f18 f19 f20 f21 f22 f23 f24 f25 f26 f27 f28 f29 f30 f31 f32 f33 f34 : Addr}
  {xE0 xI0 xN0 xC0 xD0 : Addr}
  {enm0 eqn0 efl0 : Str} {ebs0 ebm0 esb0 : List Value} {esn0 : List Str} {eab0 : Bool} {ecol0 : Option Bool} {edd0 ecd0 ecl0 eod0 : Option Addr} {ek00 ek10 ek20 ek30 ek50 : Option Value}
  {ecc0 ecv0 edo0 epm0 ect0 eoc0 : Value} {evs0 : Array Value} {ecs0 ecw0 eos0 : Array (Option Value)} {etf0 : Tok}
  {yA0 : Addr}
  {yA1 : Addr}
  {yA2 : Addr}
  {yA3 : Addr}
  (a0 : PySem.W.nsIn K mainGlobals "is_whole" = some (some (.ref f0))) (l0 : K.lookup f0 = some ⟨oc0, od0, .func (PySem.W.fnOf "is_whole" "is_whole" (defArgs s_is_whole) (defBody s_is_whole) (defScope s_is_whole) .none kV0 dc0 pm0 an0 cd0 ct0), sl0⟩) (c0 : PySem.W.codeIn K cd0 "is_whole" = true) (k0 : PySem.W.keepIn K (.ref f0) = true)
  (a1 : PySem.W.nsIn K mainGlobals "is_index" = some (some (.ref f1))) (l1 : K.lookup f1 = some ⟨oc1, od1, .func (PySem.W.fnOf "is_index" "is_index" (defArgs s_is_index) (defBody s_is_index) (defScope s_is_index) .none kV1 dc1 pm1 an1 cd1 ct1), sl1⟩) (c1 : PySem.W.codeIn K cd1 "is_index" = true) (k1 : PySem.W.keepIn K (.ref f1) = true)
  (a2 : PySem.W.nsIn K mainGlobals "is_row" = some (some (.ref f2))) (l2 : K.lookup f2 = some ⟨oc2, od2, .func (PySem.W.fnOf "is_row" "is_row" (defArgs s_is_row) (defBody s_is_row) (defScope s_is_row) .none kV2 dc2 pm2 an2 cd2 ct2), sl2⟩) (c2 : PySem.W.codeIn K cd2 "is_row" = true) (k2 : PySem.W.keepIn K (.ref f2) = true)
  (a3 : PySem.W.nsIn K mainGlobals "merged" = some (some (.ref f3))) (l3 : K.lookup f3 = some ⟨oc3, od3, .func (PySem.W.fnOf "merged" "merged" (defArgs s_merged) (defBody s_merged) (defScope s_merged) .none kV3 dc3 pm3 an3 cd3 ct3), sl3⟩) (c3 : PySem.W.codeIn K cd3 "merged" = true) (k3 : PySem.W.keepIn K (.ref f3) = true)
  (a4 : PySem.W.nsIn K mainGlobals "is_labels" = some (some (.ref f4))) (l4 : K.lookup f4 = some ⟨oc4, od4, .func (PySem.W.fnOf "is_labels" "is_labels" (defArgs s_is_labels) (defBody s_is_labels) (defScope s_is_labels) .none kV4 dc4 pm4 an4 cd4 ct4), sl4⟩) (c4 : PySem.W.codeIn K cd4 "is_labels" = true) (k4 : PySem.W.keepIn K (.ref f4) = true)
  (a5 : PySem.W.nsIn K mainGlobals "classes_of" = some (some (.ref f5))) (l5 : K.lookup f5 = some ⟨oc5, od5, .func (PySem.W.fnOf "classes_of" "classes_of" (defArgs s_classes_of) (defBody s_classes_of) (defScope s_classes_of) .none kV5 dc5 pm5 an5 cd5 ct5), sl5⟩) (c5 : PySem.W.codeIn K cd5 "classes_of" = true) (k5 : PySem.W.keepIn K (.ref f5) = true)
  (a6 : PySem.W.nsIn K mainGlobals "labels_of" = some (some (.ref f6))) (l6 : K.lookup f6 = some ⟨oc6, od6, .func (PySem.W.fnOf "labels_of" "labels_of" (defArgs s_labels_of) (defBody s_labels_of) (defScope s_labels_of) .none kV6 dc6 pm6 an6 cd6 ct6), sl6⟩) (c6 : PySem.W.codeIn K cd6 "labels_of" = true) (k6 : PySem.W.keepIn K (.ref f6) = true)
  (a7 : PySem.W.nsIn K mainGlobals "finer" = some (some (.ref f7))) (l7 : K.lookup f7 = some ⟨oc7, od7, .func (PySem.W.fnOf "finer" "finer" (defArgs s_finer) (defBody s_finer) (defScope s_finer) .none kV7 dc7 pm7 an7 cd7 ct7), sl7⟩) (c7 : PySem.W.codeIn K cd7 "finer" = true) (k7 : PySem.W.keepIn K (.ref f7) = true)
  (a8 : PySem.W.nsIn K mainGlobals "meet_labels" = some (some (.ref f8))) (l8 : K.lookup f8 = some ⟨oc8, od8, .func (PySem.W.fnOf "meet_labels" "meet_labels" (defArgs s_meet_labels) (defBody s_meet_labels) (defScope s_meet_labels) .none kV8 dc8 pm8 an8 cd8 ct8), sl8⟩) (c8 : PySem.W.codeIn K cd8 "meet_labels" = true) (k8 : PySem.W.keepIn K (.ref f8) = true)
  (a9 : PySem.W.nsIn K mainGlobals "join_labels" = some (some (.ref f9))) (l9 : K.lookup f9 = some ⟨oc9, od9, .func (PySem.W.fnOf "join_labels" "join_labels" (defArgs s_join_labels) (defBody s_join_labels) (defScope s_join_labels) .none kV9 dc9 pm9 an9 cd9 ct9), sl9⟩) (c9 : PySem.W.codeIn K cd9 "join_labels" = true) (k9 : PySem.W.keepIn K (.ref f9) = true)
  (a10 : PySem.W.nsIn K mainGlobals "broken" = some (some (.ref f10))) (l10 : K.lookup f10 = some ⟨oc10, od10, .func (PySem.W.fnOf "broken" "broken" (defArgs s_broken) (defBody s_broken) (defScope s_broken) .none kV10 dc10 pm10 an10 cd10 ct10), sl10⟩) (c10 : PySem.W.codeIn K cd10 "broken" = true) (k10 : PySem.W.keepIn K (.ref f10) = true)
  (a11 : PySem.W.nsIn K mainGlobals "_law_cell" = some (some (.ref f11))) (l11 : K.lookup f11 = some ⟨oc11, od11, .func (PySem.W.fnOf "_law_cell" "_law_cell" (defArgs s__law_cell) (defBody s__law_cell) (defScope s__law_cell) .none kV11 dc11 pm11 an11 cd11 ct11), sl11⟩) (c11 : PySem.W.codeIn K cd11 "_law_cell" = true) (k11 : PySem.W.keepIn K (.ref f11) = true)
  (a12 : PySem.W.nsIn K mainGlobals "_law_bag" = some (some (.ref f12))) (l12 : K.lookup f12 = some ⟨oc12, od12, .func (PySem.W.fnOf "_law_bag" "_law_bag" (defArgs s__law_bag) (defBody s__law_bag) (defScope s__law_bag) .none kV12 dc12 pm12 an12 cd12 ct12), sl12⟩) (c12 : PySem.W.codeIn K cd12 "_law_bag" = true) (k12 : PySem.W.keepIn K (.ref f12) = true)
  (a13 : PySem.W.nsIn K mainGlobals "_law_take" = some (some (.ref f13))) (l13 : K.lookup f13 = some ⟨oc13, od13, .func (PySem.W.fnOf "_law_take" "_law_take" (defArgs s__law_take) (defBody s__law_take) (defScope s__law_take) .none kV13 dc13 pm13 an13 cd13 ct13), sl13⟩) (c13 : PySem.W.codeIn K cd13 "_law_take" = true) (k13 : PySem.W.keepIn K (.ref f13) = true)
  (a14 : PySem.W.nsIn K mainGlobals "_law_shuffled" = some (some (.ref f14))) (l14 : K.lookup f14 = some ⟨oc14, od14, .func (PySem.W.fnOf "_law_shuffled" "_law_shuffled" (defArgs s__law_shuffled) (defBody s__law_shuffled) (defScope s__law_shuffled) .none kV14 dc14 pm14 an14 cd14 ct14), sl14⟩) (c14 : PySem.W.codeIn K cd14 "_law_shuffled" = true) (k14 : PySem.W.keepIn K (.ref f14) = true)
  (a15 : PySem.W.nsIn K mainGlobals "_law_is_whole" = some (some (.ref f15))) (l15 : K.lookup f15 = some ⟨oc15, od15, .func (PySem.W.fnOf "_law_is_whole" "_law_is_whole" (defArgs s__law_is_whole) (defBody s__law_is_whole) (defScope s__law_is_whole) .none kV15 dc15 pm15 an15 cd15 ct15), sl15⟩) (c15 : PySem.W.codeIn K cd15 "_law_is_whole" = true) (k15 : PySem.W.keepIn K (.ref f15) = true)
  (a16 : PySem.W.nsIn K mainGlobals "_law_is_truth" = some (some (.ref f16))) (l16 : K.lookup f16 = some ⟨oc16, od16, .func (PySem.W.fnOf "_law_is_truth" "_law_is_truth" (defArgs s__law_is_truth) (defBody s__law_is_truth) (defScope s__law_is_truth) .none kV16 dc16 pm16 an16 cd16 ct16), sl16⟩) (c16 : PySem.W.codeIn K cd16 "_law_is_truth" = true) (k16 : PySem.W.keepIn K (.ref f16) = true)
  (a17 : PySem.W.nsIn K mainGlobals "_law_is_row" = some (some (.ref f17))) (l17 : K.lookup f17 = some ⟨oc17, od17, .func (PySem.W.fnOf "_law_is_row" "_law_is_row" (defArgs s__law_is_row) (defBody s__law_is_row) (defScope s__law_is_row) .none kV17 dc17 pm17 an17 cd17 ct17), sl17⟩) (c17 : PySem.W.codeIn K cd17 "_law_is_row" = true) (k17 : PySem.W.keepIn K (.ref f17) = true)
  (a18 : PySem.W.nsIn K mainGlobals "_law_is_rows" = some (some (.ref f18))) (l18 : K.lookup f18 = some ⟨oc18, od18, .func (PySem.W.fnOf "_law_is_rows" "_law_is_rows" (defArgs s__law_is_rows) (defBody s__law_is_rows) (defScope s__law_is_rows) .none kV18 dc18 pm18 an18 cd18 ct18), sl18⟩) (c18 : PySem.W.codeIn K cd18 "_law_is_rows" = true) (k18 : PySem.W.keepIn K (.ref f18) = true)
  (a19 : PySem.W.nsIn K mainGlobals "_law_partition" = some (some (.ref f19))) (l19 : K.lookup f19 = some ⟨oc19, od19, .func (PySem.W.fnOf "_law_partition" "_law_partition" (defArgs s__law_partition) (defBody s__law_partition) (defScope s__law_partition) .none kV19 dc19 pm19 an19 cd19 ct19), sl19⟩) (c19 : PySem.W.codeIn K cd19 "_law_partition" = true) (k19 : PySem.W.keepIn K (.ref f19) = true)
  (a20 : PySem.W.nsIn K mainGlobals "_law_classes" = some (some (.ref f20))) (l20 : K.lookup f20 = some ⟨oc20, od20, .func (PySem.W.fnOf "_law_classes" "_law_classes" (defArgs s__law_classes) (defBody s__law_classes) (defScope s__law_classes) .none kV20 dc20 pm20 an20 cd20 ct20), sl20⟩) (c20 : PySem.W.codeIn K cd20 "_law_classes" = true) (k20 : PySem.W.keepIn K (.ref f20) = true)
  (a21 : PySem.W.nsIn K mainGlobals "_law_keeping" = some (some (.ref f21))) (l21 : K.lookup f21 = some ⟨oc21, od21, .func (PySem.W.fnOf "_law_keeping" "_law_keeping" (defArgs s__law_keeping) (defBody s__law_keeping) (defScope s__law_keeping) .none kV21 dc21 pm21 an21 cd21 ct21), sl21⟩) (c21 : PySem.W.codeIn K cd21 "_law_keeping" = true) (k21 : PySem.W.keepIn K (.ref f21) = true)
  (a22 : PySem.W.nsIn K mainGlobals "_law_moving" = some (some (.ref f22))) (l22 : K.lookup f22 = some ⟨oc22, od22, .func (PySem.W.fnOf "_law_moving" "_law_moving" (defArgs s__law_moving) (defBody s__law_moving) (defScope s__law_moving) .none kV22 dc22 pm22 an22 cd22 ct22), sl22⟩) (c22 : PySem.W.codeIn K cd22 "_law_moving" = true) (k22 : PySem.W.keepIn K (.ref f22) = true)
  (a23 : PySem.W.nsIn K mainGlobals "_law_finer" = some (some (.ref f23))) (l23 : K.lookup f23 = some ⟨oc23, od23, .func (PySem.W.fnOf "_law_finer" "_law_finer" (defArgs s__law_finer) (defBody s__law_finer) (defScope s__law_finer) .none kV23 dc23 pm23 an23 cd23 ct23), sl23⟩) (c23 : PySem.W.codeIn K cd23 "_law_finer" = true) (k23 : PySem.W.keepIn K (.ref f23) = true)
  (a24 : PySem.W.nsIn K mainGlobals "_law_meet" = some (some (.ref f24))) (l24 : K.lookup f24 = some ⟨oc24, od24, .func (PySem.W.fnOf "_law_meet" "_law_meet" (defArgs s__law_meet) (defBody s__law_meet) (defScope s__law_meet) .none kV24 dc24 pm24 an24 cd24 ct24), sl24⟩) (c24 : PySem.W.codeIn K cd24 "_law_meet" = true) (k24 : PySem.W.keepIn K (.ref f24) = true)
  (a25 : PySem.W.nsIn K mainGlobals "_law_join" = some (some (.ref f25))) (l25 : K.lookup f25 = some ⟨oc25, od25, .func (PySem.W.fnOf "_law_join" "_law_join" (defArgs s__law_join) (defBody s__law_join) (defScope s__law_join) .none kV25 dc25 pm25 an25 cd25 ct25), sl25⟩) (c25 : PySem.W.codeIn K cd25 "_law_join" = true) (k25 : PySem.W.keepIn K (.ref f25) = true)
  (a26 : PySem.W.nsIn K mainGlobals "_law_is_labels" = some (some (.ref f26))) (l26 : K.lookup f26 = some ⟨oc26, od26, .func (PySem.W.fnOf "_law_is_labels" "_law_is_labels" (defArgs s__law_is_labels) (defBody s__law_is_labels) (defScope s__law_is_labels) .none kV26 dc26 pm26 an26 cd26 ct26), sl26⟩) (c26 : PySem.W.codeIn K cd26 "_law_is_labels" = true) (k26 : PySem.W.keepIn K (.ref f26) = true)
  (a27 : PySem.W.nsIn K mainGlobals "_law_first_break" = some (some (.ref f27))) (l27 : K.lookup f27 = some ⟨oc27, od27, .func (PySem.W.fnOf "_law_first_break" "_law_first_break" (defArgs s__law_first_break) (defBody s__law_first_break) (defScope s__law_first_break) .none kV27 dc27 pm27 an27 cd27 ct27), sl27⟩) (c27 : PySem.W.codeIn K cd27 "_law_first_break" = true) (k27 : PySem.W.keepIn K (.ref f27) = true)
  (a28 : PySem.W.nsIn K mainGlobals "_law_pairs_hold" = some (some (.ref f28))) (l28 : K.lookup f28 = some ⟨oc28, od28, .func (PySem.W.fnOf "_law_pairs_hold" "_law_pairs_hold" (defArgs s__law_pairs_hold) (defBody s__law_pairs_hold) (defScope s__law_pairs_hold) .none kV28 dc28 pm28 an28 cd28 ct28), sl28⟩) (c28 : PySem.W.codeIn K cd28 "_law_pairs_hold" = true) (k28 : PySem.W.keepIn K (.ref f28) = true)
  (a29 : PySem.W.nsIn K mainGlobals "_law_no_classes" = some (some (.ref f29))) (l29 : K.lookup f29 = some ⟨oc29, od29, .func (PySem.W.fnOf "_law_no_classes" "_law_no_classes" (defArgs s__law_no_classes) (defBody s__law_no_classes) (defScope s__law_no_classes) .none kV29 dc29 pm29 an29 cd29 ct29), sl29⟩) (c29 : PySem.W.codeIn K cd29 "_law_no_classes" = true) (k29 : PySem.W.keepIn K (.ref f29) = true)
  (a30 : PySem.W.nsIn K mainGlobals "_law_refused" = some (some (.ref f30))) (l30 : K.lookup f30 = some ⟨oc30, od30, .func (PySem.W.fnOf "_law_refused" "_law_refused" (defArgs s__law_refused) (defBody s__law_refused) (defScope s__law_refused) .none kV30 dc30 pm30 an30 cd30 ct30), sl30⟩) (c30 : PySem.W.codeIn K cd30 "_law_refused" = true) (k30 : PySem.W.keepIn K (.ref f30) = true)
  (a31 : PySem.W.nsIn K mainGlobals "_law_classes_hold" = some (some (.ref f31))) (l31 : K.lookup f31 = some ⟨oc31, od31, .func (PySem.W.fnOf "_law_classes_hold" "_law_classes_hold" (defArgs s__law_classes_hold) (defBody s__law_classes_hold) (defScope s__law_classes_hold) .none kV31 dc31 pm31 an31 cd31 ct31), sl31⟩) (c31 : PySem.W.codeIn K cd31 "_law_classes_hold" = true) (k31 : PySem.W.keepIn K (.ref f31) = true)
  (a32 : PySem.W.nsIn K mainGlobals "_law_tests_hold" = some (some (.ref f32))) (l32 : K.lookup f32 = some ⟨oc32, od32, .func (PySem.W.fnOf "_law_tests_hold" "_law_tests_hold" (defArgs s__law_tests_hold) (defBody s__law_tests_hold) (defScope s__law_tests_hold) .none kV32 dc32 pm32 an32 cd32 ct32), sl32⟩) (c32 : PySem.W.codeIn K cd32 "_law_tests_hold" = true) (k32 : PySem.W.keepIn K (.ref f32) = true)
  (a33 : PySem.W.nsIn K mainGlobals "_law_breaks_hold" = some (some (.ref f33))) (l33 : K.lookup f33 = some ⟨oc33, od33, .func (PySem.W.fnOf "_law_breaks_hold" "_law_breaks_hold" (defArgs s__law_breaks_hold) (defBody s__law_breaks_hold) (defScope s__law_breaks_hold) .none kV33 dc33 pm33 an33 cd33 ct33), sl33⟩) (c33 : PySem.W.codeIn K cd33 "_law_breaks_hold" = true) (k33 : PySem.W.keepIn K (.ref f33) = true)
  (a34 : PySem.W.nsIn K mainGlobals "law" = some (some (.ref f34))) (l34 : K.lookup f34 = some ⟨oc34, od34, .func (PySem.W.fnOf "law" "law" (defArgs s_law) (defBody s_law) (defScope s_law) .none kV34 dc34 pm34 an34 cd34 ct34), sl34⟩) (c34 : PySem.W.codeIn K cd34 "law" = true) (k34 : PySem.W.keepIn K (.ref f34) = true)
  (z0 : PySem.W.nsIn K mainGlobals "int" = some none)
  (z1 : PySem.W.nsIn K mainGlobals "isinstance" = some none)
  (z2 : PySem.W.nsIn K mainGlobals "bool" = some none)
  (z3 : PySem.W.nsIn K mainGlobals "tuple" = some none)
  (z4 : PySem.W.nsIn K mainGlobals "len" = some none)
  (z5 : PySem.W.nsIn K mainGlobals "min" = some none)
  (z6 : PySem.W.nsIn K mainGlobals "max" = some none)
  (z7 : PySem.W.nsIn K mainGlobals "enumerate" = some none)
  (z8 : PySem.W.nsIn K mainGlobals "list" = some none)
  (z9 : PySem.W.nsIn K mainGlobals "range" = some none)
  (z10 : PySem.W.nsIn K mainGlobals "all" = some none)
  (z11 : PySem.W.nsIn K mainGlobals "sum" = some none)
  (z12 : PySem.W.nsIn K mainGlobals "ValueError" = some none)
  (z13 : PySem.W.nsIn K mainGlobals "repr" = some none)
  (z14 : PySem.W.nsIn K mainGlobals "reversed" = some none)
  (ea0 : PySem.W.nsIn K mainGlobals "InvalidLabels" = some (some (.ref xE0)))
  (eb0 : K.lookup xE0 = some (excClassObj enm0 eqn0 xE0 xN0 ebs0 ebm0 true esn0 esb0 eab0 ecol0 edd0 ek00 ek10 ek20 ek30 ek50 "ValueError.__new__"))
  (ec0 : PySem.HandSPX.refsVE ebm0 = true)
  (ed0 : PySem.W.findIn K (.ref xE0) "__setattr__" = some (some (.builtin "object.__setattr__")))
  (ee0 : PySem.W.subIn K (.ref xE0) (.type "BaseException") = some true)
  (ef0 : PySem.W.typeIn K (.ref xE0) = some (.type "type"))
  (eg0 : PySem.W.keepIn K (.ref xE0) = true)
  (eh0 : PySem.W.mroIn K xE0 (.ref xE0) = some true)
  (ei0 : PySem.W.ks_superIn K xE0 xE0 "__init__" = some (some (.builtin "ValueError.__init__")))
  (ej0 : PySem.W.subIn K (.ref xE0) (.type "ValueError") = some true)
  (ek0 : PySem.W.findIn K (.ref xE0) "value" = some none)
  (el0 : PySem.W.findIn K (.ref xE0) "__init__" = some (some (.ref xI0)))
  (em0 : PySem.W.typeIn K (.ref xI0) = some (.type "function"))
  (eu0 : K.lookup xI0 = some ⟨eoc0, eod0, .func ((F_InvalidLabels xC0 xD0).fd edo0 epm0 ect0), eos0⟩)
  (en0 : K.lookup xD0 = some ⟨ecc0, ecd0, .fields evs0, ecs0⟩)
  (eo0 : evs0[2]? = some (.str efl0 etf0))
  (ep0 : ((P0.main.file : Str) == efl0) = true)
  (eq0 : K.lookup xC0 = some ⟨ecv0, ecl0, .cell (some (.ref xE0)), ecw0⟩)
  (er0 : PySem.W.hasDictIn K xE0 = true)
  (es0 : PySem.W.codeIn K (.ref xD0) "InvalidLabels.__init__" = true)
  (et0 : PySem.W.nsIn K mainGlobals "super" = some none)
  (ev0 : PySem.W.nsIn K cStatics "thirdparty.any" = some none)
  (ew0 : PySem.W.findIn K (.ref xE0) "__getattribute__" = some (some (.builtin "BaseException.__getattribute__")))
  (ex0 : PySem.W.findIn K (.ref xE0) "__getattr__" = some none)
  (ey0 : PySem.W.findIn K (.ref xE0) "__class__" = some (some (.builtin "object.__class__")))
  (ez0 : PySem.W.specialIn K (.builtin "object.__class__") "__get__" = some (some (.builtin "getset_descriptor.__get__")))
  (eA0 : PySem.W.takesIn K (.builtin "object.__class__") = some true)
  (eB0 : PySem.W.mroIn K xE0 (.type "object") = some true)
  (ya0 : PySem.W.nsIn K mainGlobals "InvalidLabels" = some (some (.ref yA0)))
  (ya1 : PySem.W.nsIn K mainGlobals "TumblerError" = some (some (.ref yA1)))
  (ya2 : PySem.W.nsIn K mainGlobals "InvalidPerm" = some (some (.ref yA2)))
  (ya3 : PySem.W.nsIn K mainGlobals "InvalidCycles" = some (some (.ref yA3)))
  (pa0 : PySem.W.exmOne K (.ref xE0) (.ref yA0) = some true)
  (pb0 : PySem.W.kitOne K (.ref xE0) (.ref yA1) = some true)
  (pb1 : PySem.W.kitOne K (.ref xE0) (.type "ValueError") = some true)
  (pb2 : PySem.W.kitOne K (.ref xE0) (.ref yA2) = some false)
  (pb3 : PySem.W.kitOne K (.ref xE0) (.ref yA3) = some false) :
  ∃ fd : FuncData, (∀ (s : Shared) (v : Value), BindsTo s fd ⟨[v], []⟩ [("script", v)]) ∧ ∀ base : Heap, K.In base → base.Ns mainGlobals mg → FnG PySem.Challenge.rw_tumbler_k10_partitions_and_breaks.prog w K mg base 6 fa fd ["script"] (spLaw K (noX c_law)) := by
  obtain ⟨T, eT⟩ := txt_mk X G a0 l0 c0 k0 a1 l1 c1 k1 a2 l2 c2 k2 a3 l3 c3 k3 a4 l4 c4 k4 a5 l5 c5 k5 a6 l6 c6 k6 a7 l7 c7 k7 a8 l8 c8 k8 a9 l9 c9 k9 a10 l10 c10 k10 a11 l11 c11 k11 a12 l12 c12 k12 a13 l13 c13 k13 a14 l14 c14 k14 a15 l15 c15 k15 a16 l16 c16 k16 a17 l17 c17 k17 a18 l18 c18 k18 a19 l19 c19 k19 a20 l20 c20 k20 a21 l21 c21 k21 a22 l22 c22 k22 a23 l23 c23 k23 a24 l24 c24 k24 a25 l25 c25 k25 a26 l26 c26 k26 a27 l27 c27 k27 a28 l28 c28 k28 a29 l29 c29 k29 a30 l30 c30 k30 a31 l31 c31 k31 a32 l32 c32 k32 a33 l33 c33 k33 a34 l34 c34 k34 z0 z1 z2 z3 z4 z5 z6 z7 z8 z9 z10 z11 z12 z13 z14 ea0 eb0 ec0 ed0 ee0 ef0 eg0 eh0 ei0 ej0 ek0 el0 em0 eu0 en0 eo0 ep0 eq0 er0 es0 et0 ev0 ew0 ex0 ey0 ez0 eA0 eB0 ya0 ya1 ya2 ya3 pa0 pb0 pb1 pb2 pb3
  have e := hfa.symm.trans T.d_law.mgf
  obtain rfl : fa = T.f_law := by cases e; rfl
  refine ⟨T.fd_law, fun s v => by rw [eT]; exact .of_eq rfl, fun base _ _ => (w_law T).imp fun vs H Q E q => spLaw.of vs H Q E q⟩
end Law

set_option maxHeartbeats 1000000
/-! Reckoning with the plain functions: what simp is to know, loops by invariants, what a call leaves. -/
namespace Rf
open PySem L2

/-! ### pieces -/
@[simp] theorem then_ok (d : D) (h : AH) (f : D → AH → ER) : (ER.ok d h).then f = f d h := rfl
@[simp] theorem then_exc (c : Str) (fs : List (Str × D)) (h : AH) (f : D → AH → ER) : (ER.exc c fs h).then f = .exc c fs h := rfl
@[simp] theorem thenS_ok (d : D) (h : AH) (e : AE) (f : D → AH → SR) : (ER.ok d h).thenS e f = f d h := rfl
@[simp] theorem thenS_exc (c : Str) (fs : List (Str × D)) (h : AH) (e : AE) (f : D → AH → SR) : (ER.exc c fs h).thenS e f = .exc c fs e h := rfl
@[simp] theorem lthen_ok (ds : List D) (h : AH) (f : List D → AH → ER) : (LR.ok ds h).then f = f ds h := rfl
@[simp] theorem lthen_exc (c : Str) (fs : List (Str × D)) (h : AH) (f : List D → AH → ER) : (LR.exc c fs h).then f = .exc c fs h := rfl
@[simp] theorem sthen_nx (e : AE) (h : AH) (f : SM) : (SR.nx e h).then f = f e h := rfl
@[simp] theorem sthen_rt (d : D) (h : AH) (f : SM) : (SR.rt d h).then f = .rt d h := rfl
@[simp] theorem sthen_bk (e : AE) (h : AH) (f : SM) : (SR.bk e h).then f = .bk e h := rfl
@[simp] theorem sthen_ct (e : AE) (h : AH) (f : SM) : (SR.ct e h).then f = .ct e h := rfl
@[simp] theorem sthen_exc (c : Str) (fs : List (Str × D)) (e : AE) (h : AH) (f : SM) : (SR.exc c fs e h).then f = .exc c fs e h := rfl
@[simp] theorem onlyNx_nx (e : AE) (h : AH) : onlyNx (.nx e h) = .nx e h := rfl
@[simp] theorem again_nx (e : AE) (h : AH) (k : SM) : again (.nx e h) k = k e h := rfl
@[simp] theorem again_ct (e : AE) (h : AH) (k : SM) : again (.ct e h) k = k e h := rfl
@[simp] theorem again_bk (e : AE) (h : AH) (k : SM) : again (.bk e h) k = .nx e h := rfl
@[simp] theorem again_rt (d : D) (h : AH) (k : SM) : again (.rt d h) k = .rt d h := rfl
@[simp] theorem again_exc (c : Str) (fs : List (Str × D)) (e : AE) (h : AH) (k : SM) : again (.exc c fs e h) k = .exc c fs e h := rfl
@[simp] theorem outS_rt (d : D) (h : AH) : outS (.rt d h) = .ok d h := rfl
@[simp] theorem outS_nx (e : AE) (h : AH) : outS (.nx e h) = .ok .non h := rfl
@[simp] theorem outS_exc (c : Str) (fs : List (Str × D)) (e : AE) (h : AH) : outS (.exc c fs e h) = .exc c fs h := rfl
/-- by a bool -/
def onB (d : D) (x y : SR) : SR := match d with
  | .bl true => x
  | .bl false => y
  | _ => .stuck
@[simp] theorem onB_bl (b : Bool) (x y : SR) : onB (.bl b) x y = if b = true then x else y := by cases b <;> rfl
def onE (d : D) (x y : ER) : ER := match d with
  | .bl true => x
  | .bl false => y
  | _ => .stuck
@[simp] theorem onE_bl (b : Bool) (x y : ER) : onE (.bl b) x y = if b = true then x else y := by cases b <;> rfl
@[simp] theorem eVar_ (i : Nat) (env : AE) (h : AH) : eVar i env h = match env[i]? with | some (some d) => .ok d h | _ => .stuck := rfl
@[simp] theorem eC_ (d : D) (env : AE) (h : AH) : eC d env h = .ok d h := rfl
@[simp] theorem eOp_ (g : D → D → AH → ER) (a b : EM) (env : AE) (h : AH) : eOp g a b env h = (a env h).then fun d1 h1 => (b env h1).then fun d2 h2 => g d1 d2 h2 := rfl
@[simp] theorem eUn_ (g : D → AH → ER) (a : EM) (env : AE) (h : AH) : eUn g a env h = (a env h).then fun d1 h1 => g d1 h1 := rfl
@[simp] theorem eIf_ (c a b : EM) (env : AE) (h : AH) : eIf c a b env h = (c env h).then fun d h1 => onE d (a env h1) (b env h1) := by
  unfold eIf ER.then onE
  cases c env h with
  | ok d h1 => cases d with
    | bl b => cases b <;> rfl
    | _ => rfl
  | _ => rfl
@[simp] theorem eAnd_ (a b : EM) (env : AE) (h : AH) : eAnd a b env h = (a env h).then fun d h1 => onE d (b env h1) (.ok (.bl false) h1) := by
  unfold eAnd ER.then onE
  cases a env h with
  | ok d h1 => cases d with
    | bl b => cases b <;> rfl
    | _ => rfl
  | _ => rfl
@[simp] theorem eOr_ (a b : EM) (env : AE) (h : AH) : eOr a b env h = (a env h).then fun d h1 => onE d (.ok (.bl true) h1) (b env h1) := by
  unfold eOr ER.then onE
  cases a env h with
  | ok d h1 => cases d with
    | bl b => cases b <;> rfl
    | _ => rfl
  | _ => rfl
def notD (d : D) (h : AH) : ER := match d with
  | .bl b => .ok (.bl (!b)) h
  | _ => .stuck
@[simp] theorem notD_bl (b : Bool) (h : AH) : notD (.bl b) h = .ok (.bl (!b)) h := rfl
@[simp] theorem eNot_ (a : EM) (env : AE) (h : AH) : eNot a env h = (a env h).then notD := by
  unfold eNot ER.then notD
  cases a env h with
  | ok d h1 => cases d <;> rfl
  | _ => rfl
@[simp] theorem lNil_ (env : AE) (h : AH) : lNil env h = .ok [] h := rfl
def LR.cons (d : D) (l : LR) : LR := match l with
  | .ok ds h => .ok (d :: ds) h
  | .exc c fs h => .exc c fs h
  | .stuck => .stuck
@[simp] theorem lrcons_ok (d : D) (ds : List D) (h : AH) : LR.cons d (.ok ds h) = .ok (d :: ds) h := rfl
@[simp] theorem lrcons_exc (d : D) (c : Str) (fs : List (Str × D)) (h : AH) : LR.cons d (.exc c fs h) = .exc c fs h := rfl
def ER.thenL (o : ER) (f : D → AH → LR) : LR := match o with
  | .ok d h => f d h
  | .exc c fs h => .exc c fs h
  | .stuck => .stuck
@[simp] theorem thenL_ok (d : D) (h : AH) (f : D → AH → LR) : (ER.ok d h).thenL f = f d h := rfl
@[simp] theorem thenL_exc (c : Str) (fs : List (Str × D)) (h : AH) (f : D → AH → LR) : (ER.exc c fs h).thenL f = .exc c fs h := rfl
@[simp] theorem lCons_ (a : EM) (r : LM) (env : AE) (h : AH) : lCons a r env h = (a env h).thenL fun d h1 => LR.cons d (r env h1) := by
  unfold lCons ER.thenL LR.cons
  cases a env h with
  | ok d h1 => rfl
  | _ => rfl
@[simp] theorem eCall_ (g : List D → AH → ER) (a : LM) (env : AE) (h : AH) : eCall g a env h = (a env h).then g := rfl
@[simp] theorem argn_ok (n : Nat) (F : List D → AH → ER) (ds : List D) (h : AH) (e : ds.length = n) : argn n F ds h = F ds h := if_pos e
@[simp] theorem eTup_ (l : LM) (env : AE) (h : AH) : eTup l env h = (l env h).then fun ds h1 => if Fits ds.length then .ok (.tup ds) h1 else .stuck := rfl
@[simp] theorem eLst_ (l : LM) (env : AE) (h : AH) : eLst l env h = (l env h).then fun ds h1 => if Fits ds.length then .ok (.ref h1.length) (h1 ++ [.lst ds]) else .stuck := rfl
@[simp] theorem eMeth_ (T : String) (g : D → List D → AH → ER) (o : EM) (l : LM) (env : AE) (h : AH) : eMeth T g o l env h = (o env h).then fun d h1 => if tyOk h1 T d then (l env h1).then fun ds h2 => g d ds h2 else .stuck := rfl
@[simp] theorem sPass_ (e : AE) (h : AH) : sPass e h = .nx e h := rfl
@[simp] theorem sSeq_ (a b : SM) (e : AE) (h : AH) : sSeq a b e h = (a e h).then b := rfl
@[simp] theorem sRet_ (m : EM) (e : AE) (h : AH) : sRet m e h = (m e h).thenS e fun d h1 => .rt d h1 := rfl
@[simp] theorem sRetN_ (e : AE) (h : AH) : sRetN e h = .rt .non h := rfl
@[simp] theorem sExpr_ (m : EM) (e : AE) (h : AH) : sExpr m e h = (m e h).thenS e fun _ h1 => .nx e h1 := rfl
@[simp] theorem sIf_ (c : EM) (a b : SM) (e : AE) (h : AH) : sIf c a b e h = (c e h).thenS e fun d h1 => onB d (a e h1) (b e h1) := by
  unfold sIf ER.thenS onB
  cases c e h with
  | ok d h1 => cases d with
    | bl b => cases b <;> rfl
    | _ => rfl
  | _ => rfl
@[simp] theorem sBreak_ (e : AE) (h : AH) : sBreak e h = .bk e h := rfl
@[simp] theorem sCont_ (e : AE) (h : AH) : sCont e h = .ct e h := rfl
@[simp] theorem sSet_ (i : Nat) (m : EM) (e : AE) (h : AH) : sSet i m e h = (m e h).thenS e fun d h1 => .nx (e.set i (some d)) h1 := rfl
@[simp] theorem sAsg_ (m : EM) (g : GM) (e : AE) (h : AH) : sAsg m g e h = (m e h).thenS e fun d h1 => g d e h1 := rfl
@[simp] theorem gVar_ (i : Nat) (d : D) (e : AE) (h : AH) : gVar i d e h = .nx (e.set i (some d)) h := rfl
@[simp] theorem gNils_ (e : AE) (h : AH) : gNils [] e h = .nx e h := rfl
@[simp] theorem gCons_ (g : GM) (r : List D → AE → AH → SR) (d : D) (ds : List D) (e : AE) (h : AH) : gCons g r (d :: ds) e h = (onlyNx (g d e h)).then fun e1 h1 => r ds e1 h1 := rfl
@[simp] theorem gTup_ (k : Nat) (r : List D → AE → AH → SR) (ds : List D) (e : AE) (h : AH) : gTup k r (.tup ds) e h = if ds.length = k then r ds e h else .stuck := rfl
def putS (o : Option AH) (e : AE) : SR := match o with
  | some h => .nx e h
  | none => .stuck
@[simp] theorem putS_some (h : AH) (e : AE) : putS (some h) e = .nx e h := rfl
@[simp] theorem gSub_ (g : D → D → D → AH → Option AH) (o i : EM) (d : D) (e : AE) (h : AH) : gSub g o i d e h = (o e h).thenS e fun d1 h1 => (i e h1).thenS e fun d2 h2 => putS (g d1 d2 d h2) e := by
  unfold gSub putS ER.thenS
  cases o e h with
  | ok d1 h1 => cases i e h1 with
    | ok d2 h2 => rfl
    | _ => rfl
  | _ => rfl
@[simp] theorem eSl_nn (a : EM) (env : AE) (h : AH) : eSl a none none env h = (a env h).then fun d h1 => oSl d none none h1 := rfl
def intD (d : D) (f : Int → ER) : ER := match d with
  | .int i => f i
  | _ => .stuck
@[simp] theorem intD_int (i : Int) (f : Int → ER) : intD (.int i) f = f i := rfl
@[simp] theorem ePart_n (env : AE) (h : AH) (f : Option Int → AH → ER) : ePart none env h f = f none h := rfl
@[simp] theorem ePart_s (m : EM) (env : AE) (h : AH) (f : Option Int → AH → ER) : ePart (some m) env h f = (m env h).then fun d h1 => intD d fun i => f (some i) h1 := by
  show ((m env h).then fun d h1 => match d with | .int i => f (some i) h1 | _ => .stuck) = _
  unfold intD
  cases m env h with
  | ok d h1 => cases d <;> rfl
  | _ => rfl
@[simp] theorem eSl_ (a : EM) (lo hi : Option EM) (env : AE) (h : AH) : eSl a lo hi env h = (a env h).then fun d h1 => ePart lo env h1 fun l h2 => ePart hi env h2 fun u h3 => oSl d l u h3 := rfl

/-! ### operators on ints -/
@[simp] theorem oAdd_int (i j : Int) (h : AH) : oAdd (.int i) (.int j) h = .ok (.int (i + j)) h := rfl
@[simp] theorem oSub_int (i j : Int) (h : AH) : oSub (.int i) (.int j) h = .ok (.int (i - j)) h := rfl
@[simp] theorem oNeg_int (i : Int) (h : AH) : oNeg (.int i) h = .ok (.int (-i)) h := rfl
@[simp] theorem oLt_int (i j : Int) (h : AH) : oLt (.int i) (.int j) h = .ok (.bl (decide (i < j))) h := rfl
@[simp] theorem oLe_int (i j : Int) (h : AH) : oLe (.int i) (.int j) h = .ok (.bl (decide (i ≤ j))) h := rfl
@[simp] theorem oGt_int (i j : Int) (h : AH) : oGt (.int i) (.int j) h = .ok (.bl (decide (j < i))) h := rfl
@[simp] theorem oGe_int (i j : Int) (h : AH) : oGe (.int i) (.int j) h = .ok (.bl (decide (j ≤ i))) h := rfl
@[simp] theorem oEq_int (i j : Int) (h : AH) : oEq (.int i) (.int j) h = .ok (.bl (i == j)) h := by
  simp [oEq, D.toP, PyData.eqv]
@[simp] theorem oNe_int (i j : Int) (h : AH) : oNe (.int i) (.int j) h = .ok (.bl (!(i == j))) h := by
  simp [oNe, D.toP, PyData.eqv]
@[simp] theorem oIs_non (d : D) (h : AH) : oIs d .non h = .ok (.bl d.isNon) h := rfl
@[simp] theorem oIsNot_non (d : D) (h : AH) : oIsNot d .non h = .ok (.bl (!d.isNon)) h := rfl
@[simp] theorem oTruth_bl (b : Bool) (h : AH) : oTruth (.bl b) h = .ok (.bl b) h := rfl
@[simp] theorem oTruth_int (i : Int) (h : AH) : oTruth (.int i) h = .ok (.bl (i != 0)) h := rfl
@[simp] theorem oTruth_non (h : AH) : oTruth .non h = .ok (.bl false) h := rfl
@[simp] theorem oTruth_tup (ds : List D) (h : AH) : oTruth (.tup ds) h = .ok (.bl (!ds.isEmpty)) h := rfl
theorem oMod_int {i j : Int} {h : AH} (hj : 0 < j) : oMod (.int i) (.int j) h = .ok (.int (i % j)) h := by unfold oMod; exact if_pos hj
theorem oMul_int {i j : Int} {h : AH} (hc : CMulX i j) : oMul (.int i) (.int j) h = .ok (.int (i * j)) h := by unfold oMul; exact if_pos hc
theorem oDiv_int {i j : Int} {h : AH} (hj : DivOk j) : oDiv (.int i) (.int j) h = .ok (.int (i / j)) h := by unfold oDiv; exact if_pos hj
/-- products of numbers below 2^10000 -/
theorem mulOk {i j : Int} (hi : i.natAbs < 2 ^ 10000) (hj : j.natAbs < 2 ^ 10000) : CMulX i j := mulx_ok hi hj (by decide)
theorem log2_small {j : Int} (h1 : 0 < j) (h2 : j.natAbs < 2 ^ 9000) : j.natAbs.log2 < 9000 := by
  have h0 : j.natAbs ≠ 0 := by omega
  exact (Nat.log2_lt h0).mpr h2
@[simp] theorem cLen_tup (ds : List D) (h : AH) : cLen [.tup ds] h = .ok (.int ds.length) h := rfl
@[simp] theorem cLen_rol (ds : List D) (h : AH) : cLen [.rol ds] h = .ok (.int ds.length) h := rfl
theorem cLen_ref {r : Nat} {ds : List D} {h : AH} (e : h[r]? = some (.lst ds)) : cLen [.ref r] h = .ok (.int ds.length) h := by simp [cLen, e]
@[simp] theorem cInt_int (i : Int) (h : AH) : cInt [.int i] h = .ok (.int i) h := rfl
@[simp] theorem cMin2_int (i j : Int) (h : AH) : cMin2 [.int i, .int j] h = .ok (.int (if j < i then j else i)) h := rfl
@[simp] theorem cMax2_int (i j : Int) (h : AH) : cMax2 [.int i, .int j] h = .ok (.int (if j > i then j else i)) h := rfl
@[simp] theorem cAbs_int (i : Int) (h : AH) : cAbs [.int i] h = .ok (.int (if i < 0 then -i else i)) h := rfl
@[simp] theorem cTuple_tup (ds : List D) (h : AH) : cTuple [.tup ds] h = .ok (.tup ds) h := rfl
theorem cTuple_ref {r : Nat} {ds : List D} {h : AH} (e : h[r]? = some (.lst ds)) : cTuple [.ref r] h = .ok (.tup ds) h := by simp [cTuple, seqOf, e]
@[simp] theorem cTuple_rol (ds : List D) (h : AH) : cTuple [.rol ds] h = .ok (.tup ds) h := rfl
@[simp] theorem cList_tup (ds : List D) (h : AH) : cList [.tup ds] h = .ok (.ref h.length) (h ++ [.lst ds]) := rfl
theorem cList_ref {r : Nat} {ds : List D} {h : AH} (e : h[r]? = some (.lst ds)) : cList [.ref r] h = .ok (.ref h.length) (h ++ [.lst ds]) := by simp [cList, seqOf, e]
@[simp] theorem getLast_app {h : AH} {o : AO} : (h ++ [o])[h.length]? = some o := by simp
@[simp] theorem cIsi_int (i : Int) (n : String) (h : AH) (hn : n ∈ askTys := by decide) : cIsi [.int i, .ty n] h = .ok (.bl (isTy "int" n)) h := by simp [cIsi, D.tyn, hn]
@[simp] theorem cIsi_bl (i : Bool) (n : String) (h : AH) (hn : n ∈ askTys := by decide) : cIsi [.bl i, .ty n] h = .ok (.bl (isTy "bool" n)) h := by simp [cIsi, D.tyn, hn]
@[simp] theorem cIsi_str (i : Str) (n : String) (h : AH) (hn : n ∈ askTys := by decide) : cIsi [.str i, .ty n] h = .ok (.bl (isTy "str" n)) h := by simp [cIsi, D.tyn, hn]
@[simp] theorem cIsi_non (n : String) (h : AH) (hn : n ∈ askTys := by decide) : cIsi [.non, .ty n] h = .ok (.bl (isTy "NoneType" n)) h := by simp [cIsi, D.tyn, hn]
@[simp] theorem cIsi_tup (ds : List D) (n : String) (h : AH) (hn : n ∈ askTys := by decide) : cIsi [.tup ds, .ty n] h = .ok (.bl (isTy "tuple" n)) h := by simp [cIsi, D.tyn, hn]

/-! ### items -/
theorem atI_nat' {α : Type} {xs : List α} {j : Nat} (h : j < xs.length) : L2.atI xs (j : Int) = some xs[j] := atI_nat (List.getElem?_eq_getElem h)
theorem oIx_tup {ds : List D} {i : Nat} {h : AH} {d : D} (e : ds[i]? = some d) : oIx (.tup ds) (.int (i : Int)) h = .ok d h := by
  simp [oIx, seqOf, atI_nat e]
theorem oIx_rol {ds : List D} {i : Nat} {h : AH} {d : D} (e : ds[i]? = some d) : oIx (.rol ds) (.int (i : Int)) h = .ok d h := by
  simp [oIx, seqOf, atI_nat e]
theorem oIx_ref {r : Nat} {ds : List D} {i : Nat} {h : AH} {d : D} (e0 : h[r]? = some (.lst ds)) (e : ds[i]? = some d) : oIx (.ref r) (.int (i : Int)) h = .ok d h := by
  simp [oIx, seqOf, e0, atI_nat e]
theorem putL_ref {r : Nat} {ds : List D} {i : Nat} {v : D} {h : AH} (e0 : h[r]? = some (.lst ds)) (hi : i < ds.length) : putL (.ref r) (.int (i : Int)) v h = some (h.set r (.lst (ds.set i v))) := by
  have : L2.ixN ds.length (i : Int) = some i := by
    unfold L2.ixN
    rw [if_pos (by omega), if_pos (by omega)]
    simp
  simp [putL, e0, this]
theorem mAppend_ref {r : Nat} {ds : List D} {v : D} {h : AH} (e0 : h[r]? = some (.lst ds)) (hl : ds.length < sizeLine) : mAppend (.ref r) [v] h = .ok .non (h.set r (.lst (ds ++ [v]))) := by
  have hl : FitsL ds.length := hl
  simp [mAppend, e0, hl]
theorem tyOk_list {r : Nat} {ds : List D} {h : AH} (e0 : h[r]? = some (.lst ds)) : tyOk h "list" (.ref r) = true := by simp [tyOk, e0]

/-! ### loops -/
theorem drop_cons {α : Type} {l r : List α} {i : Nat} {d : α} (h : l.drop i = d :: r) : l[i]? = some d ∧ l.drop (i + 1) = r := by
  refine ⟨?_, ?_⟩
  · have := congrArg (·[0]?) h
    simpa using this
  · have : (l.drop i).drop 1 = r := by rw [h]; rfl
    rwa [List.drop_drop] at this
/-- the body at each item -/
def sLoop (g : GM) (b : SM) : List D → SM
  | [] => fun e h => .nx e h
  | d :: ds => fun e h => again ((onlyNx (g d e h)).then b) (sLoop g b ds)
theorem forN_stat {g : GM} {b : SM} {ds : List D} : ∀ (r : List D) (i : Nat) (e : AE) (h : AH), ds.drop i = r → forN (stat ds) g b (r.length + 1) i e h = sLoop g b r e h
  | [], i, e, h, hd => by
    have hi : ds[i]? = none := by
      have q : ds.length - i = 0 := by simpa using congrArg List.length hd
      have : ds.length ≤ i := by omega
      exact List.getElem?_eq_none_iff.mpr this
    unfold forN
    simp [stat, hi, sLoop]
  | d :: r, i, e, h, hd => by
    obtain ⟨hi, hr⟩ := drop_cons hd
    rw [List.length_cons]
    unfold forN
    simp only [stat, hi]
    unfold sLoop
    congr 1
    funext e' h'
    exact forN_stat r (i + 1) e' h' hr
theorem sFor_stat {mi : IM} {g : GM} {b : SM} {e : AE} {h h1 : AH} {ds : List D} (hm : mi e h = .ok (stat ds) h1) : sFor mi g b e h = sLoop g b ds e h1 := by
  unfold sFor
  rw [hm]
  exact forN_stat ds 0 e h1 rfl
/-- a loop by an invariant: it goes through -/
theorem loop_inv {g : GM} {b : SM} (P : Nat → AE → AH → Prop) : ∀ (ds : List D) (k : Nat) (e : AE) (h : AH), P k e h →
    (∀ (i : Nat) (d : D) (e : AE) (h : AH), ds[i]? = some d → P (k + i) e h → ∃ e' h', (onlyNx (g d e h)).then b = .nx e' h' ∧ P (k + i + 1) e' h') → ∃ e' h', sLoop g b ds e h = .nx e' h' ∧ P (k + ds.length) e' h'
  | [], k, e, h, p, _ => ⟨e, h, rfl, p⟩
  | d :: ds, k, e, h, p, st => by
    obtain ⟨e1, h1, q, p1⟩ := st 0 d e h rfl p
    obtain ⟨e2, h2, q2, p2⟩ := loop_inv P ds (k + 1) e1 h1 p1 fun i d' e' h' hd hp => by
      have hp' : P (k + (i + 1)) e' h' := by rwa [show k + (i + 1) = k + 1 + i by omega]
      obtain ⟨e3, h3, a, c⟩ := st (i + 1) d' e' h' (by simpa using hd) hp'
      exact ⟨e3, h3, a, by rwa [show k + 1 + i + 1 = k + (i + 1) + 1 by omega]⟩
    refine ⟨e2, h2, ?_, by rwa [List.length_cons, show k + (ds.length + 1) = k + 1 + ds.length by omega]⟩
    unfold sLoop
    rw [q]
    exact q2
/-- .. or leaves by a return -/
theorem loop_ret {g : GM} {b : SM} (P : Nat → AE → AH → Prop) (R : D → AH → Prop) : ∀ (ds : List D) (k : Nat) (e : AE) (h : AH), P k e h →
    (∀ (i : Nat) (d : D) (e : AE) (h : AH), ds[i]? = some d → P (k + i) e h → (∃ e' h', (onlyNx (g d e h)).then b = .nx e' h' ∧ P (k + i + 1) e' h') ∨ ∃ d' h', (onlyNx (g d e h)).then b = .rt d' h' ∧ R d' h') →
    (∃ e' h', sLoop g b ds e h = .nx e' h' ∧ P (k + ds.length) e' h') ∨ ∃ d' h', sLoop g b ds e h = .rt d' h' ∧ R d' h'
  | [], k, e, h, p, _ => .inl ⟨e, h, rfl, p⟩
  | d :: ds, k, e, h, p, st => by
    rcases st 0 d e h rfl p with ⟨e1, h1, q, p1⟩ | ⟨d', h', q, r⟩
    · rcases loop_ret P R ds (k + 1) e1 h1 p1 fun i d' e' h' hd hp => by
          have hp' : P (k + (i + 1)) e' h' := by rwa [show k + (i + 1) = k + 1 + i by omega]
          rcases st (i + 1) d' e' h' (by simpa using hd) hp' with ⟨e3, h3, a, c⟩ | c
          · exact .inl ⟨e3, h3, a, by rwa [show k + 1 + i + 1 = k + (i + 1) + 1 by omega]⟩
          · exact .inr c with ⟨e2, h2, q2, p2⟩ | ⟨d2, h2, q2, r2⟩
      · refine .inl ⟨e2, h2, ?_, by rwa [List.length_cons, show k + (ds.length + 1) = k + 1 + ds.length by omega]⟩
        unfold sLoop
        rw [q]
        exact q2
      · refine .inr ⟨d2, h2, ?_, r2⟩
        unfold sLoop
        rw [q]
        exact q2
    · refine .inr ⟨d', h', ?_, r⟩
      unfold sLoop
      rw [q]
      rfl
/-- a list of the heap walked, that stands as it stands -/
theorem forN_live {g : GM} {b : SM} {r : Nat} {ds : List D} {m : Nat} (P : Nat → AE → AH → Prop) (hP : ∀ i e h, P i e h → h[r]? = some (.lst ds)) : ∀ (k i : Nat) (e : AE) (h : AH), i + k = ds.length → P i e h →
    (∀ (i : Nat) (d : D) (e : AE) (h : AH), ds[i]? = some d → P i e h → ∃ e' h', (onlyNx (g d e h)).then b = .nx e' h' ∧ P (i + 1) e' h') → ∃ e' h', forN (live r m) g b (k + 1) i e h = .nx e' h' ∧ P ds.length e' h'
  | 0, i, e, h, hk, p, st => by
    have e0 := hP i e h p
    have ei : i = ds.length := by omega
    refine ⟨e, h, ?_, by rw [← ei]; exact p⟩
    unfold forN
    simp [live, e0, ei]
  | k + 1, i, e, h, hk, p, st => by
    have e0 := hP i e h p
    have hi : i < ds.length := by omega
    obtain ⟨e1, h1, q, p1⟩ := st i ds[i] e h (List.getElem?_eq_getElem hi) p
    obtain ⟨e2, h2, q2, p2⟩ := forN_live P hP k (i + 1) e1 h1 (by omega) p1 st
    refine ⟨e2, h2, ?_, p2⟩
    unfold forN
    simp only [live, e0, List.getElem?_eq_getElem hi]
    rw [q]
    exact q2
theorem sFor_live {mi : IM} {g : GM} {b : SM} {e : AE} {h h1 : AH} {r : Nat} {ds : List D} (P : Nat → AE → AH → Prop) (hm : mi e h = .ok (live r ds.length) h1) (hP : ∀ i e h, P i e h → h[r]? = some (.lst ds)) (p : P 0 e h1)
    (st : ∀ (i : Nat) (d : D) (e : AE) (h : AH), ds[i]? = some d → P i e h → ∃ e' h', (onlyNx (g d e h)).then b = .nx e' h' ∧ P (i + 1) e' h') : ∃ e' h', sFor mi g b e h = .nx e' h' ∧ P ds.length e' h' := by
  unfold sFor
  rw [hm]
  exact forN_live P hP ds.length 0 e h1 (Nat.zero_add _) p st
theorem forN_live_ret {g : GM} {b : SM} {r : Nat} {ds : List D} {m : Nat} (P : Nat → AE → AH → Prop) (R : D → AH → Prop) (hP : ∀ i e h, P i e h → h[r]? = some (.lst ds)) : ∀ (k i : Nat) (e : AE) (h : AH), i + k = ds.length → P i e h →
    (∀ (i : Nat) (d : D) (e : AE) (h : AH), ds[i]? = some d → P i e h → (∃ e' h', (onlyNx (g d e h)).then b = .nx e' h' ∧ P (i + 1) e' h') ∨ ∃ d' h', (onlyNx (g d e h)).then b = .rt d' h' ∧ R d' h') →
    (∃ e' h', forN (live r m) g b (k + 1) i e h = .nx e' h' ∧ P ds.length e' h') ∨ ∃ d' h', forN (live r m) g b (k + 1) i e h = .rt d' h' ∧ R d' h'
  | 0, i, e, h, hk, p, st => by
    have e0 := hP i e h p
    have ei : i = ds.length := by omega
    refine .inl ⟨e, h, ?_, by rw [← ei]; exact p⟩
    unfold forN
    simp [live, e0, ei]
  | k + 1, i, e, h, hk, p, st => by
    have e0 := hP i e h p
    have hi : i < ds.length := by omega
    rcases st i ds[i] e h (List.getElem?_eq_getElem hi) p with ⟨e1, h1, q, p1⟩ | ⟨d', h', q, rr⟩
    · rcases forN_live_ret P R hP k (i + 1) e1 h1 (by omega) p1 st with ⟨e2, h2, q2, p2⟩ | ⟨d2, h2, q2, r2⟩
      · refine .inl ⟨e2, h2, ?_, p2⟩
        unfold forN
        simp only [live, e0, List.getElem?_eq_getElem hi]
        rw [q]
        exact q2
      · refine .inr ⟨d2, h2, ?_, r2⟩
        unfold forN
        simp only [live, e0, List.getElem?_eq_getElem hi]
        rw [q]
        exact q2
    · refine .inr ⟨d', h', ?_, rr⟩
      unfold forN
      simp only [live, e0, List.getElem?_eq_getElem hi]
      rw [q]
      rfl
theorem sFor_live_ret {mi : IM} {g : GM} {b : SM} {e : AE} {h h1 : AH} {r : Nat} {ds : List D} (P : Nat → AE → AH → Prop) (R : D → AH → Prop) (hm : mi e h = .ok (live r ds.length) h1) (hP : ∀ i e h, P i e h → h[r]? = some (.lst ds)) (p : P 0 e h1)
    (st : ∀ (i : Nat) (d : D) (e : AE) (h : AH), ds[i]? = some d → P i e h → (∃ e' h', (onlyNx (g d e h)).then b = .nx e' h' ∧ P (i + 1) e' h') ∨ ∃ d' h', (onlyNx (g d e h)).then b = .rt d' h' ∧ R d' h') :
    (∃ e' h', sFor mi g b e h = .nx e' h' ∧ P ds.length e' h') ∨ ∃ d' h', sFor mi g b e h = .rt d' h' ∧ R d' h' := by
  unfold sFor
  rw [hm]
  exact forN_live_ret P R hP ds.length 0 e h1 (Nat.zero_add _) p st
/-- a while by an invariant and a number that falls -/
theorem while_inv {c : EM} {b : SM} (P : AE → AH → Prop) (μ : AE → AH → Nat) (T : AE → AH → Prop)
    (st : ∀ e h, P e h → (∃ h1, c e h = .ok (.bl false) h1 ∧ T e h1) ∨ ∃ h1, c e h = .ok (.bl true) h1 ∧ ∃ e' h', b e h1 = .nx e' h' ∧ P e' h' ∧ μ e' h' < μ e h) : ∀ (n : Nat) (e : AE) (h : AH), μ e h ≤ n → P e h → ∃ e' h', sWhile c b e h = .nx e' h' ∧ T e' h' := by
  have key : ∀ (n : Nat) (e : AE) (h : AH), μ e h ≤ n → P e h → ∃ k e' h', whileN c b k e h = .nx e' h' ∧ T e' h' := by
    intro n
    induction n with
    | zero =>
      intro e h hn p
      rcases st e h p with ⟨h1, hc, t⟩ | ⟨h1, hc, e', h', hb, p', l⟩
      · exact ⟨1, e, h1, (by unfold whileN; rw [hc]; rfl), t⟩
      · omega
    | succ n ih =>
      intro e h hn p
      rcases st e h p with ⟨h1, hc, t⟩ | ⟨h1, hc, e', h', hb, p', l⟩
      · exact ⟨1, e, h1, (by unfold whileN; rw [hc]; rfl), t⟩
      · obtain ⟨k, e2, h2, q, t⟩ := ih e' h' (by omega) p'
        refine ⟨k + 1, e2, h2, ?_, t⟩
        unfold whileN
        rw [hc]
        show again (b e h1) (whileN c b k) = _
        rw [hb]
        exact q
  intro n e h hn p
  obtain ⟨k, e', h', q, t⟩ := key n e h hn p
  exact ⟨e', h', sWhile_eq q (by intro z; cases z), t⟩

/-! ### comprehensions -/
theorem lc_pure {α : Type} {φ : α → D} {k : Nat} {tt te : EM} {e0 : AE} {h : AH} (p : α → Bool) (f : α → D) {ds : List D} : ∀ (r : List α) (i : Nat) (acc : List D), ds.drop i = r.map φ → acc.length + r.length ≤ sizeLine →
    (∀ x ∈ r, tt (e0.set k (some (φ x))) h = .ok (.bl (p x)) h) → (∀ x ∈ r, p x = true → te (e0.set k (some (φ x))) h = .ok (f x) h) →
    lcN (stat ds) (gVar k) tt te e0 (r.length + 1) i acc h = .inr (acc ++ (r.filter p).map f, h)
  | [], i, acc, hd, _, _, _ => by
    have hi : ds[i]? = none := by
      have q : ds.length - i = 0 := by simpa using congrArg List.length hd
      have : ds.length ≤ i := by omega
      exact List.getElem?_eq_none_iff.mpr this
    unfold lcN
    simp [stat, hi]
  | x :: r, i, acc, hd, hl, ht, hf => by
    obtain ⟨hi, hr⟩ := drop_cons (show ds.drop i = φ x :: r.map φ from hd)
    rw [List.length_cons] at hl ⊢
    unfold lcN
    simp only [stat, hi, gVar_, ht x List.mem_cons_self]
    cases hp : p x with
    | true =>
      simp only [hf x List.mem_cons_self hp]
      rw [if_pos (show FitsL acc.length from (by omega : acc.length < sizeLine))]
      have ih := lc_pure (φ := φ) (k := k) (tt := tt) (te := te) (e0 := e0) (h := h) p f (ds := ds) r (i + 1) (acc ++ [f x]) hr (by simp; omega) (fun y hy => ht y (List.mem_cons_of_mem _ hy)) fun y hy => hf y (List.mem_cons_of_mem _ hy)
      simp only [stat] at ih
      rw [ih, List.filter_cons, if_pos hp, List.map_cons, List.append_assoc]; rfl
    | false =>
      have ih := lc_pure (φ := φ) (k := k) (tt := tt) (te := te) (e0 := e0) (h := h) p f (ds := ds) r (i + 1) acc hr (by omega) (fun y hy => ht y (List.mem_cons_of_mem _ hy)) fun y hy => hf y (List.mem_cons_of_mem _ hy)
      simp only [stat] at ih
      dsimp only
      rw [ih, List.filter_cons, if_neg (by rw [hp]; exact Bool.false_ne_true)]
/-- [f x for x in a row that stands still if p x], nothing else changes -/
theorem eLc_pure {α : Type} {φ : α → D} {k : Nat} {mi : IM} {tt te : EM} {vs : List Nat} {e : AE} {h h1 : AH} (xs : List α) (p : α → Bool) (f : α → D) (hm : mi e h = .ok (stat (xs.map φ)) h1) (hl : xs.length ≤ sizeLine)
    (ht : ∀ x ∈ xs, tt ((wipeE e vs).set k (some (φ x))) h1 = .ok (.bl (p x)) h1) (hf : ∀ x ∈ xs, p x = true → te ((wipeE e vs).set k (some (φ x))) h1 = .ok (f x) h1) :
    eLc mi (gVar k) tt te vs e h = .ok (.ref h1.length) (h1 ++ [.lst ((xs.filter p).map f)]) := by
  unfold eLc
  rw [hm]
  have := lc_pure (φ := φ) (k := k) (tt := tt) (te := te) (e0 := wipeE e vs) (h := h1) p f (ds := xs.map φ) xs 0 [] rfl (by simpa using hl) ht hf
  have hn : (stat (xs.map φ)).n = xs.length := by simp [stat]
  simp only [hn, this, List.nil_append]
theorem eLc_map {α : Type} {φ : α → D} {k : Nat} {mi : IM} {te : EM} {vs : List Nat} {e : AE} {h h1 : AH} (xs : List α) (f : α → D) (hm : mi e h = .ok (stat (xs.map φ)) h1) (hl : xs.length ≤ sizeLine)
    (hf : ∀ x ∈ xs, te ((wipeE e vs).set k (some (φ x))) h1 = .ok (f x) h1) : eLc mi (gVar k) (eC (.bl true)) te vs e h = .ok (.ref h1.length) (h1 ++ [.lst (xs.map f)]) := by
  have := eLc_pure (tt := eC (.bl true)) (φ := φ) (k := k) (te := te) (vs := vs) xs (fun _ => true) f hm hl (fun _ _ => rfl) (fun x hx _ => hf x hx)
  rw [this, List.filter_eq_self.mpr (by simp)]
/-- a list of the heap that stands still is as good as a row -/
theorem lcN_live {g : GM} {tt te : EM} {e0 : AE} {r m : Nat} {ds : List D} : ∀ (k i : Nat) (acc : List D) (h : AH), h[r]? = some (.lst ds) →
    (∀ (i : Nat) (d : D), ds[i]? = some d → ∀ e1 h1, g d e0 h = .nx e1 h1 → h1 = h ∧ (∀ b h2, tt e1 h = .ok (.bl b) h2 → h2 = h) ∧ ∀ d2 h3, te e1 h = .ok d2 h3 → h3 = h) → lcN (live r m) g tt te e0 k i acc h = lcN (stat ds) g tt te e0 k i acc h
  | 0, i, acc, h, _, _ => rfl
  | k + 1, i, acc, h, e0', hs => by
    unfold lcN
    simp only [live, e0', stat]
    cases hd : ds[i]? with
    | none => rfl
    | some d =>
      dsimp only
      cases hg : g d e0 h with
      | nx e1 h1 =>
        obtain ⟨rfl, q1, q2⟩ := hs i d hd e1 h1 hg
        dsimp only
        cases ht : tt e1 h1 with
        | ok db h2 =>
          cases db with
          | bl b =>
            have := q1 b h2 ht
            subst this
            cases b with
            | true =>
              dsimp only
              cases he : te e1 h2 with
              | ok d2 h3 =>
                have := q2 d2 h3 he
                subst this
                dsimp only
                split
                · exact lcN_live k (i + 1) (acc ++ [d2]) h3 e0' hs
                · rfl
              | _ => rfl
            | false => exact lcN_live k (i + 1) acc h2 e0' hs
          | _ => rfl
        | _ => rfl
      | _ => rfl
theorem eLc_pureL {α : Type} {φ : α → D} {k r : Nat} {mi : IM} {tt te : EM} {vs : List Nat} {e : AE} {h h1 : AH} (xs : List α) (p : α → Bool) (f : α → D) (hm : mi e h = .ok (live r xs.length) h1) (hr : h1[r]? = some (.lst (xs.map φ))) (hl : xs.length ≤ sizeLine)
    (ht : ∀ x ∈ xs, tt ((wipeE e vs).set k (some (φ x))) h1 = .ok (.bl (p x)) h1) (hf : ∀ x ∈ xs, te ((wipeE e vs).set k (some (φ x))) h1 = .ok (f x) h1) :
    eLc mi (gVar k) tt te vs e h = .ok (.ref h1.length) (h1 ++ [.lst ((xs.filter p).map f)]) := by
  unfold eLc
  rw [hm]
  have := lc_pure (φ := φ) (k := k) (tt := tt) (te := te) (e0 := wipeE e vs) (h := h1) p f (ds := xs.map φ) xs 0 [] rfl (by simpa using hl) ht fun x hx _ => hf x hx
  have l := lcN_live (g := gVar k) (tt := tt) (te := te) (e0 := wipeE e vs) (r := r) (m := xs.length) (ds := xs.map φ) (xs.length + 1) 0 [] h1 hr fun i d hd e1 h1' hg => by
    rw [gVar_] at hg
    cases hg
    rw [List.getElem?_map] at hd
    cases hx : xs[i]? with
    | none => rw [hx] at hd; cases hd
    | some x =>
      rw [hx] at hd
      cases hd
      have mx := List.mem_of_getElem? hx
      refine ⟨rfl, fun b h2 e2 => ?_, fun d2 h3 e3 => ?_⟩
      · rw [ht x mx] at e2; cases e2; rfl
      · rw [hf x mx] at e3; cases e3; rfl
  have hn : (live r xs.length).n = xs.length := rfl
  simp only [hn, l, this, List.nil_append]

/-! ### what a call leaves -/
theorem keep_app {h g : AH} : Keep h (h ++ g) := ⟨by simp, fun i o hi e => .inl (by rwa [List.getElem?_append_left hi] at e)⟩
theorem keep_set {h : AH} {a : Nat} {o : AO} (f : o.flat = true) : Keep h (h.set a o) := ⟨by simp, fun i o' hi e => by
  by_cases q : a = i
  · subst q
    rw [List.getElem?_set_self hi] at e
    cases e
    exact .inr f
  · rw [List.getElem?_set_ne q] at e
    exact .inl e⟩
theorem keep_set_app {h g : AH} {a : Nat} {o : AO} (f : o.flat = true) : Keep h (h.set a o ++ g) := ⟨by simp, fun i o' hi e => by
  rw [List.getElem?_append_left (by simpa using hi)] at e
  exact (keep_set f).2 i o' hi e⟩
theorem gc_app {h g : AH} {d : D} (p : d.pure = true) : gc h (.ok d (h ++ g)) = .ok d h := by
  rw [gc_pure keep_app p]; simp
theorem gc_same {h : AH} {d : D} (p : d.pure = true) : gc h (.ok d h) = .ok d h := by
  have := gc_app (h := h) (g := []) p
  simpa using this
theorem gc_set {h : AH} {a : Nat} {o : AO} {d : D} (p : d.pure = true) (f : o.flat = true) : gc h (.ok d (h.set a o)) = .ok d (h.set a o) := by
  rw [gc_pure (keep_set f) p]
  rw [List.take_of_length_le (by simp)]
theorem gc_set_app {h g : AH} {a : Nat} {o : AO} {d : D} (p : d.pure = true) (f : o.flat = true) : gc h (.ok d (h.set a o ++ g)) = .ok d (h.set a o) := by
  rw [gc_pure (keep_set_app f) p]
  rw [List.take_append_of_le_length (by simp), List.take_of_length_le (by simp)]
/-- a list is handed back -/
theorem gc_new {h g : AH} {i : Nat} {o : AO} (e : g[i]? = some o) (f : o.flat = true) : gc h (.ok (.ref (h.length + i)) (h ++ g)) = .ok (.ref h.length) (h ++ [o]) := by
  rw [gc_list keep_app (by omega) (by rw [List.getElem?_append_right (by omega)]; simpa using e) f]
  simp
theorem gc_set_new {h g : AH} {a i : Nat} {o u : AO} (fu : u.flat = true) (e : g[i]? = some o) (f : o.flat = true) : gc h (.ok (.ref (h.length + i)) (h.set a u ++ g)) = .ok (.ref h.length) (h.set a u ++ [o]) := by
  rw [gc_list (keep_set_app fu) (by omega) (by rw [List.getElem?_append_right (by simp)]; simpa using e) f]
  rw [List.take_append_of_le_length (by simp), List.take_of_length_le (by simp)]

/-! ### numbers 0, 1, .. as data -/
abbrev dN (n : Nat) : D := .int (n : Int)
@[simp] theorem pure_int (i : Int) : (D.int i).pure = true := rfl
@[simp] theorem pure_bl (i : Bool) : (D.bl i).pure = true := rfl
@[simp] theorem pure_str (i : Str) : (D.str i).pure = true := rfl
@[simp] theorem pure_non : D.non.pure = true := rfl
@[simp] theorem pure_tup (ds : List D) : (D.tup ds).pure = pures ds := rfl
@[simp] theorem pure_rol (ds : List D) : (D.rol ds).pure = pures ds := rfl
@[simp] theorem flat_lst (ds : List D) : (AO.lst ds).flat = pures ds := rfl
@[simp] theorem pures_nil : pures [] = true := rfl
@[simp] theorem pures_cons (d : D) (ds : List D) : pures (d :: ds) = (d.pure && pures ds) := rfl
theorem pures_map {α : Type} {f : α → D} {xs : List α} (h : ∀ x ∈ xs, (f x).pure = true) : pures (xs.map f) = true := pures_iff.mpr fun d hd => by
  obtain ⟨x, hx, rfl⟩ := List.mem_map.mp hd
  exact h x hx
@[simp] theorem pures_dN (xs : List Nat) : pures (xs.map dN) = true := pures_map fun _ _ => rfl
@[simp] theorem pures_int (xs : List Int) : pures (xs.map D.int) = true := pures_map fun _ _ => rfl
@[simp] theorem pures_append (xs ys : List D) : pures (xs ++ ys) = (pures xs && pures ys) := by
  induction xs with
  | nil => simp
  | cons x xs ih => simp [ih, Bool.and_assoc]
theorem rg_zero (n : Nat) : rg 0 n = (List.range n).map dN := by
  unfold rg
  apply List.map_congr_left
  intro i _
  simp
end Rf

set_option maxHeartbeats 1000000
/-! More for simp: things of the heap by what stands there. -/
namespace Rf
open PySem L2
def ixD (ds : List D) (i : Int) (h : AH) : ER := match L2.atI ds i with
  | some d => .ok d h
  | none => .stuck
def ixO (o : Option AO) (i : Int) (h : AH) : ER := match o with
  | some (.lst ds) => ixD ds i h
  | _ => .stuck
@[simp] theorem ixO_lst (ds : List D) (i : Int) (h : AH) : ixO (some (.lst ds)) i h = ixD ds i h := rfl
@[simp] theorem oIx_ref_ (r : Nat) (i : Int) (h : AH) : oIx (.ref r) (.int i) h = ixO h[r]? i h := by
  simp only [oIx, seqOf, ixO, ixD]
  cases h[r]? with
  | none => rfl
  | some o => cases o <;> rfl
@[simp] theorem oIx_tup_ (ds : List D) (i : Int) (h : AH) : oIx (.tup ds) (.int i) h = ixD ds i h := rfl
@[simp] theorem oIx_rol_ (ds : List D) (i : Int) (h : AH) : oIx (.rol ds) (.int i) h = ixD ds i h := rfl
theorem ixD_some {ds : List D} {i : Nat} {d : D} {h : AH} (e : ds[i]? = some d) : ixD ds (i : Int) h = .ok d h := by simp [ixD, atI_nat e]
@[simp] theorem ixD_0 (d : D) (ds : List D) (h : AH) : ixD (d :: ds) 0 h = .ok d h := ixD_some (i := 0) rfl
@[simp] theorem ixD_1 (a d : D) (ds : List D) (h : AH) : ixD (a :: d :: ds) 1 h = .ok d h := ixD_some (i := 1) rfl
@[simp] theorem ixD_2 (a b d : D) (ds : List D) (h : AH) : ixD (a :: b :: d :: ds) 2 h = .ok d h := ixD_some (i := 2) rfl
@[simp] theorem ixD_3 (a b c d : D) (ds : List D) (h : AH) : ixD (a :: b :: c :: d :: ds) 3 h = .ok d h := ixD_some (i := 3) rfl
@[simp] theorem ixD_4 (a b c e d : D) (ds : List D) (h : AH) : ixD (a :: b :: c :: e :: d :: ds) 4 h = .ok d h := ixD_some (i := 4) rfl
theorem ixD_map {α : Type} {f : α → D} {xs : List α} {i : Nat} {h : AH} {x : α} (e : xs[i]? = some x) : ixD (xs.map f) (i : Int) h = .ok (f x) h := ixD_some (by rw [List.getElem?_map, e]; rfl)
theorem getD_some {α : Type} {xs : List α} {i : Nat} {a : α} (hi : i < xs.length) : xs[i]? = some (xs.getD i a) := by simp [hi]
/-- an item of a row of numbers -/
theorem ixD_N {xs : List Nat} {i : Nat} {h : AH} (hi : i < xs.length) : ixD (xs.map dN) (i : Int) h = .ok (dN (xs.getD i 0)) h := ixD_map (getD_some hi)
def putO (o : Option AO) (r : Nat) (i : Int) (v : D) (h : AH) : Option AH := match o with
  | some (.lst ds) => (match L2.ixN ds.length i with
    | some j => some (h.set r (.lst (ds.set j v)))
    | none => none)
  | _ => none
@[simp] theorem putL_ref_ (r : Nat) (i : Int) (v : D) (h : AH) : putL (.ref r) (.int i) v h = putO h[r]? r i v h := rfl
theorem ixN_nat {n i : Nat} (hi : i < n) : L2.ixN n (i : Int) = some i := by
  unfold L2.ixN
  rw [if_pos (by omega), if_pos (by omega)]
  simp
theorem putO_nat {ds : List D} {r i : Nat} {v : D} {h : AH} (hi : i < ds.length) : putO (some (.lst ds)) r (i : Int) v h = some (h.set r (.lst (ds.set i v))) := by simp [putO, ixN_nat hi]
@[simp] theorem putO_0 (d : D) (ds : List D) (r : Nat) (v : D) (h : AH) : putO (some (.lst (d :: ds))) r 0 v h = some (h.set r (.lst (v :: ds))) := putO_nat (i := 0) (by simp)
@[simp] theorem putO_1 (a d : D) (ds : List D) (r : Nat) (v : D) (h : AH) : putO (some (.lst (a :: d :: ds))) r 1 v h = some (h.set r (.lst (a :: v :: ds))) := putO_nat (i := 1) (by simp)
@[simp] theorem putO_2 (a b d : D) (ds : List D) (r : Nat) (v : D) (h : AH) : putO (some (.lst (a :: b :: d :: ds))) r 2 v h = some (h.set r (.lst (a :: b :: v :: ds))) := putO_nat (i := 2) (by simp)
@[simp] theorem putO_3 (a b c d : D) (ds : List D) (r : Nat) (v : D) (h : AH) : putO (some (.lst (a :: b :: c :: d :: ds))) r 3 v h = some (h.set r (.lst (a :: b :: c :: v :: ds))) := putO_nat (i := 3) (by simp)
/-- a row of numbers, one changed -/
theorem putO_N {xs : List Nat} {r i v : Nat} {h : AH} (hi : i < xs.length) : putO (some (.lst (xs.map dN))) r (i : Int) (dN v) h = some (h.set r (.lst ((xs.set i v).map dN))) := by
  rw [putO_nat (by simpa using hi), List.map_set]
noncomputable def appO (o : Option AO) (r : Nat) (v : D) (h : AH) : ER := match o with
  | some (.lst xs) => if FitsL xs.length then .ok .non (h.set r (.lst (xs ++ [v]))) else .stuck
  | _ => .stuck
@[simp] theorem mAppend_ref_ (r : Nat) (v : D) (h : AH) : mAppend (.ref r) [v] h = appO h[r]? r v h := rfl
theorem appO_lst {ds : List D} {r : Nat} {v : D} {h : AH} (hl : ds.length < sizeLine) : appO (some (.lst ds)) r v h = .ok .non (h.set r (.lst (ds ++ [v]))) := if_pos hl
def tyO (o : Option AO) (T : String) : Bool := match o with
  | some (.lst _) => T == "list"
  | some (.dK _) => T == "dict"
  | some (.dT _) => T == "dict"
  | some (.lk _ _ _) => false
  | none => false
@[simp] theorem tyOk_ref_ (h : AH) (T : String) (r : Nat) : tyOk h T (.ref r) = tyO h[r]? T := rfl
@[simp] theorem tyO_lst (ds : List D) (T : String) : tyO (some (.lst ds)) T = (T == "list") := rfl
def lenO (o : Option AO) (h : AH) : ER := match o with
  | some (.lst es) => .ok (.int es.length) h
  | some (.dK kvs) => .ok (.int kvs.length) h
  | _ => .stuck
@[simp] theorem cLen_ref_ (r : Nat) (h : AH) : cLen [.ref r] h = lenO h[r]? h := rfl
@[simp] theorem lenO_lst (es : List D) (h : AH) : lenO (some (.lst es)) h = .ok (.int es.length) h := rfl
def tupO (o : Option AO) (h : AH) : ER := match o with
  | some (.lst es) => .ok (.tup es) h
  | _ => .stuck
@[simp] theorem cTuple_ref_ (r : Nat) (h : AH) : cTuple [.ref r] h = tupO h[r]? h := by
  simp only [cTuple, seqOf, tupO]
  cases h[r]? with
  | none => rfl
  | some o => cases o <;> rfl
@[simp] theorem tupO_lst (es : List D) (h : AH) : tupO (some (.lst es)) h = .ok (.tup es) h := rfl
def lstO (o : Option AO) (h : AH) : ER := match o with
  | some (.lst es) => .ok (.ref h.length) (h ++ [.lst es])
  | _ => .stuck
@[simp] theorem cList_ref_ (r : Nat) (h : AH) : cList [.ref r] h = lstO h[r]? h := by
  simp only [cList, seqOf, lstO]
  cases h[r]? with
  | none => rfl
  | some o => cases o <;> rfl
@[simp] theorem lstO_lst (es : List D) (h : AH) : lstO (some (.lst es)) h = .ok (.ref h.length) (h ++ [.lst es]) := rfl
def slO (o : Option AO) (lo hi : Option Int) (h : AH) : ER := match o with
  | some (.lst es) => .ok (.ref h.length) (h ++ [.lst (cutD es lo hi)])
  | _ => .stuck
@[simp] theorem oSl_ref_ (r : Nat) (lo hi : Option Int) (h : AH) : oSl (.ref r) lo hi h = slO h[r]? lo hi h := by
  simp only [oSl, listOf, slO]
  cases h[r]? with
  | none => rfl
  | some o => cases o <;> rfl
@[simp] theorem slO_lst (es : List D) (lo hi : Option Int) (h : AH) : slO (some (.lst es)) lo hi h = .ok (.ref h.length) (h ++ [.lst (cutD es lo hi)]) := rfl
@[simp] theorem oSl_tup_ (es : List D) (lo hi : Option Int) (h : AH) : oSl (.tup es) lo hi h = .ok (.tup (cutD es lo hi)) h := rfl
@[simp] theorem oSl_rol_ (es : List D) (lo hi : Option Int) (h : AH) : oSl (.rol es) lo hi h = .ok (.ref h.length) (h ++ [.lst (cutD es lo hi)]) := rfl
theorem cutD_to (es : List D) (k : Nat) : cutD es none (some (k : Int)) = es.take k := by
  unfold cutD
  rw [HT.sIx_none, HT.sIx_nat, List.drop_zero, Nat.sub_zero]
  rw [List.take_eq_take_iff]
  omega
theorem cutD_from (es : List D) (k : Nat) : cutD es (some (k : Int)) none = es.drop k := by
  unfold cutD
  rw [HT.sIx_none, HT.sIx_nat]
  by_cases hk : k ≤ es.length
  · rw [Nat.min_eq_left hk, List.take_of_length_le (by simp)]
  · rw [Nat.min_eq_right (by omega), Nat.sub_self, List.take_zero, List.drop_eq_nil_of_le (by omega)]
theorem cutD_mid (es : List D) (k j : Nat) (hk : k ≤ es.length) : cutD es (some (k : Int)) (some (j : Int)) = (es.drop k).take (j - k) := by
  unfold cutD
  rw [HT.sIx_nat, HT.sIx_nat, Nat.min_eq_left hk, List.take_eq_take_iff, List.length_drop]
  omega
def sumO (o : Option AO) (h : AH) : ER := match o with
  | some (.lst es) => (match intsOf es with
    | some ns => .ok (.int ns.sum) h
    | none => .stuck)
  | _ => .stuck
@[simp] theorem cSum_ref_ (r : Nat) (h : AH) : cSum [.ref r] h = sumO h[r]? h := by
  simp only [cSum, listOf, sumO]
  cases h[r]? with
  | none => rfl
  | some o => cases o <;> rfl
@[simp] theorem sumO_ints (ns : List Int) (h : AH) : sumO (some (.lst (ns.map D.int))) h = .ok (.int ns.sum) h := by simp [sumO]
@[simp] theorem oPow_ (i j : Int) (h : AH) : oPow (.int i) (.int j) h = if PowOk i j then .ok (.int (i ^ j.toNat)) h else .stuck := rfl
/-- numbers below 10^600 -/
theorem oMul_b {i j : Int} {h : AH} (h1 : -(10 ^ 200) ≤ i) (h2 : i ≤ 10 ^ 200) (h3 : -(10 ^ 200) ≤ j) (h4 : j ≤ 10 ^ 200) : oMul (.int i) (.int j) h = .ok (.int (i * j)) h := by
  have e : (10 : Int) ^ 200 = ((10 ^ 200 : Nat) : Int) := by norm_cast
  rw [e] at h1 h2 h3 h4
  have l : (10 : Nat) ^ 200 < 2 ^ 10000 := by
    have a : (10 : Nat) ^ 200 ≤ (2 ^ 4) ^ 200 := Nat.pow_le_pow_left (by decide) 200
    rw [← Nat.pow_mul] at a
    exact Nat.lt_of_le_of_lt a (Nat.pow_lt_pow_right (by decide) (by decide))
  exact oMul_int (mulOk (Nat.lt_of_le_of_lt (by omega : i.natAbs ≤ 10 ^ 200) l) (Nat.lt_of_le_of_lt (by omega : j.natAbs ≤ 10 ^ 200) l))
theorem mulB {i j : Int} (h1 : -(10 ^ 200) ≤ i) (h2 : i ≤ 10 ^ 200) (h3 : -(10 ^ 200) ≤ j) (h4 : j ≤ 10 ^ 200) : CMulX i j := by
  have e : (10 : Int) ^ 200 = ((10 ^ 200 : Nat) : Int) := by norm_cast
  rw [e] at h1 h2 h3 h4
  have l : (10 : Nat) ^ 200 < 2 ^ 10000 := by
    have a : (10 : Nat) ^ 200 ≤ (2 ^ 4) ^ 200 := Nat.pow_le_pow_left (by decide) 200
    rw [← Nat.pow_mul] at a
    exact Nat.lt_of_le_of_lt a (Nat.pow_lt_pow_right (by decide) (by decide))
  exact mulOk (Nat.lt_of_le_of_lt (by omega : i.natAbs ≤ 10 ^ 200) l) (Nat.lt_of_le_of_lt (by omega : j.natAbs ≤ 10 ^ 200) l)
theorem divB {j : Int} (h1 : 0 < j) (h2 : j ≤ 10 ^ 200) : DivOk j := by
  have e : (10 : Int) ^ 200 = ((10 ^ 200 : Nat) : Int) := by norm_cast
  rw [e] at h2
  have l : (10 : Nat) ^ 200 < 2 ^ 9000 := by
    have a : (10 : Nat) ^ 200 ≤ (2 ^ 4) ^ 200 := Nat.pow_le_pow_left (by decide) 200
    rw [← Nat.pow_mul] at a
    exact Nat.lt_of_le_of_lt a (Nat.pow_lt_pow_right (by decide) (by decide))
  exact ⟨h1, log2_small h1 (Nat.lt_of_le_of_lt (by omega : j.natAbs ≤ 10 ^ 200) l)⟩
theorem get_set {α : Type} {h : List α} {a : Nat} {o : α} (ha : h[a]? = some o) (x : α) : (h.set a x)[a]? = some x := List.getElem?_set_self (List.getElem?_eq_some_iff.mp ha).1
theorem oMul_ (i j : Int) (h : AH) : oMul (.int i) (.int j) h = if CMulX i j then .ok (.int (i * j)) h else .stuck := rfl
theorem oDiv_ (i j : Int) (h : AH) : oDiv (.int i) (.int j) h = if DivOk j then .ok (.int (i / j)) h else .stuck := rfl
theorem oMod_ (i j : Int) (h : AH) : oMod (.int i) (.int j) h = if 0 < j then .ok (.int (i % j)) h else .stuck := rfl
theorem oDiv_b {i j : Int} {h : AH} (h1 : 0 < j) (h2 : j ≤ 10 ^ 200) : oDiv (.int i) (.int j) h = .ok (.int (i / j)) h := by
  have e : (10 : Int) ^ 200 = ((10 ^ 200 : Nat) : Int) := by norm_cast
  rw [e] at h2
  have l : (10 : Nat) ^ 200 < 2 ^ 9000 := by
    have a : (10 : Nat) ^ 200 ≤ (2 ^ 4) ^ 200 := Nat.pow_le_pow_left (by decide) 200
    rw [← Nat.pow_mul] at a
    exact Nat.lt_of_le_of_lt a (Nat.pow_lt_pow_right (by decide) (by decide))
  exact oDiv_int ⟨h1, log2_small h1 (Nat.lt_of_le_of_lt (by omega : j.natAbs ≤ 10 ^ 200) l)⟩
/-! walks -/
noncomputable def forR (o : LR) (g : GM) (b : SM) (e : AE) : SR := match o with
  | .ok [.int j] h1 => if RgB j then sLoop g b (rg 0 j.toNat) e h1 else .stuck
  | .ok _ _ => .stuck
  | .exc c fs h1 => .exc c fs e h1
  | .stuck => .stuck
@[simp] theorem sFor_range1 (l : LM) (g : GM) (b : SM) (e : AE) (h : AH) : sFor (iRange1 l) g b e h = forR (l e h) g b e := by
  unfold sFor iRange1 forR
  cases l e h with
  | ok ds h1 =>
    match ds with
    | [.int j] =>
      dsimp only
      by_cases hj : RgB j
      · rw [if_pos hj, if_pos hj]
        exact forN_stat _ 0 e h1 rfl
      · rw [if_neg hj, if_neg hj]
    | [] => rfl
    | .non :: _ => rfl
    | .bl _ :: _ => rfl
    | .str _ :: _ => rfl
    | .ty _ :: _ => rfl
    | .tup _ :: _ => rfl
    | .rol _ :: _ => rfl
    | .kt _ :: _ => rfl
    | .ref _ :: _ => rfl
    | .int _ :: _ :: _ => rfl
  | exc c fs h1 => rfl
  | stuck => rfl
@[simp] theorem forR_ok (j : Int) (h1 : AH) (g : GM) (b : SM) (e : AE) : forR (.ok [.int j] h1) g b e = if RgB j then sLoop g b (rg 0 j.toNat) e h1 else .stuck := rfl
/-- a list of the heap walked -/
def liveL (r : Nat) (ds : List D) (g : GM) (b : SM) (e : AE) (h : AH) : SR := forN (live r ds.length) g b (ds.length + 1) 0 e h
def forO (o : Option AO) (r : Nat) (g : GM) (b : SM) (e : AE) (h : AH) : SR := match o with
  | some (.lst ds) => liveL r ds g b e h
  | _ => .stuck
@[simp] theorem forO_lst (ds : List D) (r : Nat) (g : GM) (b : SM) (e : AE) (h : AH) : forO (some (.lst ds)) r g b e h = liveL r ds g b e h := rfl
def forV (o : ER) (g : GM) (b : SM) (e : AE) : SR := match o with
  | .ok (.tup ds) h1 => sLoop g b ds e h1
  | .ok (.rol ds) h1 => sLoop g b ds e h1
  | .ok (.str x) h1 => sLoop g b (signs x) e h1
  | .ok (.ref r) h1 => forO h1[r]? r g b e h1
  | .ok _ _ => .stuck
  | .exc c fs h1 => .exc c fs e h1
  | .stuck => .stuck
@[simp] theorem forV_tup (ds : List D) (g : GM) (b : SM) (e : AE) (h : AH) : forV (.ok (.tup ds) h) g b e = sLoop g b ds e h := rfl
@[simp] theorem forV_rol (ds : List D) (g : GM) (b : SM) (e : AE) (h : AH) : forV (.ok (.rol ds) h) g b e = sLoop g b ds e h := rfl
@[simp] theorem forV_str (x : Str) (g : GM) (b : SM) (e : AE) (h : AH) : forV (.ok (.str x) h) g b e = sLoop g b (signs x) e h := rfl
@[simp] theorem forV_ref (r : Nat) (g : GM) (b : SM) (e : AE) (h : AH) : forV (.ok (.ref r) h) g b e = forO h[r]? r g b e h := rfl
@[simp] theorem sFor_val (m : EM) (g : GM) (b : SM) (e : AE) (h : AH) : sFor (iVal m) g b e h = forV (m e h) g b e := by
  unfold sFor iVal forV
  cases m e h with
  | ok d h1 =>
    cases d with
    | tup ds => exact forN_stat ds 0 e h1 rfl
    | rol ds => exact forN_stat ds 0 e h1 rfl
    | str x => exact forN_stat (signs x) 0 e h1 rfl
    | ref r =>
      dsimp only
      unfold forO liveL
      cases h1[r]? with
      | none => rfl
      | some o => cases o <;> rfl
    | _ => rfl
  | exc c fs h1 => rfl
  | stuck => rfl
noncomputable def rgE (tp : Bool) (d : D) (h1 : AH) : ER := match d with
  | .int j => if RgOk 0 j then (if tp then .ok (.tup (rg 0 j.toNat)) h1 else .ok (.ref h1.length) (h1 ++ [.lst (rg 0 j.toNat)])) else .stuck
  | _ => .stuck
@[simp] theorem eRg1_ (tp : Bool) (m : EM) (e : AE) (h : AH) : eRg1 tp m e h = (m e h).then (rgE tp) := rfl
@[simp] theorem rgE_t (j : Int) (h1 : AH) : rgE true (.int j) h1 = if RgOk 0 j then .ok (.tup (rg 0 j.toNat)) h1 else .stuck := by
  unfold rgE; simp
@[simp] theorem rgE_f (j : Int) (h1 : AH) : rgE false (.int j) h1 = if RgOk 0 j then .ok (.ref h1.length) (h1 ++ [.lst (rg 0 j.toNat)]) else .stuck := by
  unfold rgE; simp
theorem rgB_nat {n : Nat} (h : n ≤ 1000000) : RgB (n : Int) := ⟨by omega, by omega⟩
theorem rgOk_nat {n : Nat} (hn : n ≤ 16777216) : RgOk 0 (n : Int) := RgOk.of_le (Int.le_refl 0) (by omega) (by decide) (by omega)
theorem iRange1_nat {m : EM} {e : AE} {h h1 : AH} {n : Nat} (hm : m e h = .ok (.int (n : Int)) h1) (hn : n ≤ 1000000) : iRange1 (lCons m lNil) e h = .ok (stat ((List.range n).map dN)) h1 := by
  simp only [iRange1, lCons_, lNil_, hm, thenL_ok, lrcons_ok]
  rw [if_pos (rgB_nat hn), Int.toNat_natCast, rg_zero]
theorem iVal_tup {m : EM} {e : AE} {h h1 : AH} {ds : List D} (hm : m e h = .ok (.tup ds) h1) : iVal m e h = .ok (stat ds) h1 := by simp [iVal, hm]
theorem iVal_rol {m : EM} {e : AE} {h h1 : AH} {ds : List D} (hm : m e h = .ok (.rol ds) h1) : iVal m e h = .ok (stat ds) h1 := by simp [iVal, hm]
theorem iVal_str {m : EM} {e : AE} {h h1 : AH} {x : Str} (hm : m e h = .ok (.str x) h1) : iVal m e h = .ok (stat (signs x)) h1 := by simp [iVal, hm]
theorem iVal_ref {m : EM} {e : AE} {h h1 : AH} {r : Nat} {ds : List D} (hm : m e h = .ok (.ref r) h1) (hr : h1[r]? = some (.lst ds)) : iVal m e h = .ok (live r ds.length) h1 := by simp [iVal, hm, hr]
theorem liveL_inv {g : GM} {b : SM} {e : AE} {h : AH} {r : Nat} {ds : List D} (P : Nat → AE → AH → Prop) (hP : ∀ i e h, P i e h → h[r]? = some (.lst ds)) (p : P 0 e h)
    (st : ∀ (i : Nat) (d : D) (e : AE) (h : AH), ds[i]? = some d → P i e h → ∃ e' h', (onlyNx (g d e h)).then b = .nx e' h' ∧ P (i + 1) e' h') : ∃ e' h', liveL r ds g b e h = .nx e' h' ∧ P ds.length e' h' :=
  forN_live P hP ds.length 0 e h (Nat.zero_add _) p st
theorem liveL_ret {g : GM} {b : SM} {e : AE} {h : AH} {r : Nat} {ds : List D} (P : Nat → AE → AH → Prop) (R : D → AH → Prop) (hP : ∀ i e h, P i e h → h[r]? = some (.lst ds)) (p : P 0 e h)
    (st : ∀ (i : Nat) (d : D) (e : AE) (h : AH), ds[i]? = some d → P i e h → (∃ e' h', (onlyNx (g d e h)).then b = .nx e' h' ∧ P (i + 1) e' h') ∨ ∃ d' h', (onlyNx (g d e h)).then b = .rt d' h' ∧ R d' h') :
    (∃ e' h', liveL r ds g b e h = .nx e' h' ∧ P ds.length e' h') ∨ ∃ d' h', liveL r ds g b e h = .rt d' h' ∧ R d' h' :=
  forN_live_ret P R hP ds.length 0 e h (Nat.zero_add _) p st
/-- a loop over 0 .. n - 1 -/
theorem loopN {k : Nat} {b : SM} (P : Nat → AE → AH → Prop) (n : Nat) {e : AE} {h : AH} (p : P 0 e h)
    (st : ∀ (i : Nat) (e : AE) (h : AH), i < n → P i e h → ∃ e' h', b (e.set k (some (dN i))) h = .nx e' h' ∧ P (i + 1) e' h') : ∃ e' h', sLoop (gVar k) b ((List.range n).map dN) e h = .nx e' h' ∧ P n e' h' := by
  have := loop_inv (g := gVar k) (b := b) P ((List.range n).map dN) 0 e h p fun i d e h hd hp => by
    rw [List.getElem?_map] at hd
    by_cases hi : i < n
    · rw [List.getElem?_range hi] at hd
      cases hd
      rw [Nat.zero_add] at hp
      obtain ⟨e', h', q, p'⟩ := st i e h hi hp
      exact ⟨e', h', q, by rwa [Nat.zero_add]⟩
    · rw [List.getElem?_eq_none (by simp; omega)] at hd; cases hd
  simpa using this
theorem loopN_ret {k : Nat} {b : SM} (P : Nat → AE → AH → Prop) (R : D → AH → Prop) (n : Nat) {e : AE} {h : AH} (p : P 0 e h)
    (st : ∀ (i : Nat) (e : AE) (h : AH), i < n → P i e h → (∃ e' h', b (e.set k (some (dN i))) h = .nx e' h' ∧ P (i + 1) e' h') ∨ ∃ d' h', b (e.set k (some (dN i))) h = .rt d' h' ∧ R d' h') :
    (∃ e' h', sLoop (gVar k) b ((List.range n).map dN) e h = .nx e' h' ∧ P n e' h') ∨ ∃ d' h', sLoop (gVar k) b ((List.range n).map dN) e h = .rt d' h' ∧ R d' h' := by
  have := loop_ret (g := gVar k) (b := b) P R ((List.range n).map dN) 0 e h p fun i d e h hd hp => by
    rw [List.getElem?_map] at hd
    by_cases hi : i < n
    · rw [List.getElem?_range hi] at hd
      cases hd
      rw [Nat.zero_add] at hp
      rcases st i e h hi hp with ⟨e', h', q, p'⟩ | z
      · exact .inl ⟨e', h', q, by rwa [Nat.zero_add]⟩
      · exact .inr z
    · rw [List.getElem?_eq_none (by simp; omega)] at hd; cases hd
  simpa using this
theorem beq_nat (a b : Nat) : ((a : Int) == (b : Int)) = (a == b) := by
  by_cases h : a = b
  · subst h; simp
  · have h2 : ¬ (a : Int) = (b : Int) := fun e => h (Int.ofNat.inj e)
    rw [beq_eq_false_iff_ne.mpr h, beq_eq_false_iff_ne.mpr h2]
@[simp high] theorem oEq_N (a b : Nat) (h : AH) : oEq (.int (a : Int)) (.int (b : Int)) h = .ok (.bl (a == b)) h := by rw [oEq_int, beq_nat]
@[simp high] theorem oNe_N (a b : Nat) (h : AH) : oNe (.int (a : Int)) (.int (b : Int)) h = .ok (.bl (!(a == b))) h := by rw [oNe_int, beq_nat]
theorem fits {n : Nat} (h : n ≤ 16777216) : Fits n := by unfold Fits; rw [sizeLine_eq]; exact h
theorem fitsL {n : Nat} (h : n < 16777216) : FitsL n := by unfold FitsL; rw [sizeLine_eq]; exact h
@[simp] theorem fits_0 : Fits 0 := fits (by decide)
@[simp] theorem fits_1 : Fits (0 + 1) := fits (by decide)
@[simp] theorem fits_2 : Fits (0 + 1 + 1) := fits (by decide)
@[simp] theorem fits_3 : Fits (0 + 1 + 1 + 1) := fits (by decide)
@[simp] theorem fits_1' : Fits 1 := fits (by decide)
@[simp] theorem fits_2' : Fits 2 := fits (by decide)
@[simp] theorem fits_3' : Fits 3 := fits (by decide)
@[simp] theorem fits_4' : Fits 4 := fits (by decide)
@[simp] theorem fits_5' : Fits 5 := fits (by decide)
@[simp] theorem fits_8' : Fits 8 := fits (by decide)
@[simp] theorem powOk_18 : PowOk 10 18 := ⟨by decide, by decide, by decide⟩
@[simp] theorem powOk_15 : PowOk 10 15 := ⟨by decide, by decide, by decide⟩
@[simp] theorem powOk_60 : PowOk 10 60 := ⟨by decide, by decide, by decide⟩
@[simp] theorem powOk_6 : PowOk 10 6 := ⟨by decide, by decide, by decide⟩
@[simp] theorem divOk_2 : DivOk 2 := divB (by decide) (by decide)
@[simp] theorem divOk_3 : DivOk 3 := divB (by decide) (by decide)
@[simp] theorem divOk_7 : DivOk 7 := divB (by decide) (by decide)
@[simp] theorem divOk_32 : DivOk 32 := divB (by decide) (by decide)
@[simp] theorem divOk_61 : DivOk 61 := divB (by decide) (by decide)
theorem set_self {α : Type} {h : List α} {a : Nat} {o : α} (ha : h[a]? = some o) : h.set a o = h := by
  apply List.ext_getElem?
  intro j
  by_cases hj : a = j
  · subst hj
    rw [List.getElem?_set_self (List.getElem?_eq_some_iff.mp ha).1, ha]
  · rw [List.getElem?_set_ne hj]
/-- the new things behind h -/
theorem app_get {α : Type} {h g : List α} {i : Nat} : (h ++ g)[h.length + i]? = g[i]? := by
  rw [List.getElem?_append_right (by omega)]; simp
@[simp] theorem app_get0 {α : Type} {h g : List α} {n : Nat} (hn : h.length = n := by simp) : (h ++ g)[n]? = g[0]? := by
  subst hn
  rw [List.getElem?_append_right (by omega)]; simp
theorem app_get_l {α : Type} {h g : List α} {a : Nat} {o : α} (ha : h[a]? = some o) : (h ++ g)[a]? = some o := by
  rw [List.getElem?_append_left (List.getElem?_eq_some_iff.mp ha).1]; exact ha
theorem app_set_l {α : Type} {h g : List α} {a : Nat} {o : α} (ha : a < h.length) : (h ++ g).set a o = h.set a o ++ g := List.set_append_left _ _ ha
theorem app_set {α : Type} {h g : List α} {i n : Nat} {o : α} (hn : h.length = n) : (h ++ g).set (n + i) o = h ++ g.set i o := by
  subst hn
  rw [List.set_append_right _ _ (by omega)]; simp
theorem getD_set {p : List Nat} {i j v : Nat} (hi : i < p.length) : (p.set i v).getD j 0 = if i = j then v else p.getD j 0 := by
  simp only [List.getD_eq_getElem?_getD]
  by_cases h : i = j
  · subst h
    rw [List.getElem?_set_self hi, if_pos rfl]; rfl
  · rw [List.getElem?_set_ne h, if_neg h]
end Rf

set_option maxHeartbeats 1000000
/-! Reckoning with the later parts (RN .. RC). -/
namespace Rf
open PySem L2
@[simp] theorem eDict_ (e : AE) (h : AH) : eDict e h = .ok (.ref h.length) (h ++ [.dK []]) := rfl
@[simp] theorem eCallK_ (n m : Nat) (idx : List Nat) (F : List D → AH → ER) (ml mk : LM) (e : AE) (h : AH) : eCallK n m idx F ml mk e h = (ml e h).then fun ds h1 => (mk e h1).then fun es h2 => if ds.length = n ∧ es.length = m then F (permK idx ds es) h2 else .stuck := rfl
theorem cSorted_lst {r : Nat} {ns : List Int} {h : AH} (e : h[r]? = some (.lst (ns.map D.int))) : cSorted [.ref r] h = .ok (.ref h.length) (h ++ [.lst ((intSort ns).map D.int)]) := by
  simp [cSorted, e]
theorem cSorted_dK {r : Nat} {kvs : List (Key × D)} {ns : List Int} {h : AH} (e : h[r]? = some (.dK kvs)) (k : keysI kvs = some ns) (l : ns.length < 64) : cSorted [.ref r] h = .ok (.ref h.length) (h ++ [.lst ((intSort ns).map D.int)]) := by
  simp [cSorted, e, k, l]
theorem oDGet_ref {r : Nat} {kvs : List (Key × D)} {k : Int} {d : D} {h : AH} (e : h[r]? = some (.dK kvs)) (v : valD kvs (.inl k) = some d) : oDGet (.ref r) (.int k) h = .ok d h := by
  simp [oDGet, dictOf, keyD, e, v]
theorem oDNotIn_ref {r : Nat} {kvs : List (Key × D)} {k : Int} {h : AH} (e : h[r]? = some (.dK kvs)) : oDNotIn (.int k) (.ref r) h = .ok (.bl (!(valD kvs (.inl k)).isSome)) h := by
  simp [oDNotIn, dictOf, keyD, e]
theorem oDIn_ref {r : Nat} {kvs : List (Key × D)} {k : Int} {h : AH} (e : h[r]? = some (.dK kvs)) : oDIn (.int k) (.ref r) h = .ok (.bl (valD kvs (.inl k)).isSome) h := by
  simp [oDIn, dictOf, keyD, e]
theorem putD_ref {r : Nat} {kvs : List (Key × D)} {k : Int} {v : D} {h : AH} (e : h[r]? = some (.dK kvs)) (l : kvs.length < sizeLine) : putD (.ref r) (.int k) v h = some (h.set r (.dK (setD kvs (.inl k) v))) := by
  simp [putD, dictOf, keyD, e, l]
theorem iEnum1_tup {m : EM} {e : AE} {h h1 : AH} {ds : List D} (hm : m e h = .ok (.tup ds) h1) : iEnum1 m e h = .ok (stat (numD ds)) h1 := by simp [iEnum1, hm]
theorem eRev_ref {m : EM} {e : AE} {h h1 : AH} {r : Nat} {ds : List D} (hm : m e h = .ok (.ref r) h1) (er : h1[r]? = some (.lst ds)) : eRev m e h = .ok (.ref h1.length) (h1 ++ [.lst ds.reverse]) := by simp [eRev, hm, Rf.listOf, er]
end Rf

set_option maxHeartbeats 1000000
/-! General lemmas first written for k11. -/
namespace Rf
open PySem L2
theorem getD_get {α : Type} {l : List α} {i : Nat} {d : α} (h : i < l.length) : l.getD i d = l[i] := by simp [h]
theorem getD_mem {α : Type} {l : List α} {i : Nat} {d : α} (h : i < l.length) : l.getD i d ∈ l := by rw [getD_get h]; exact List.getElem_mem h
theorem nodup_getD {α : Type} {l : List α} (nd : l.Nodup) {i j : Nat} {d : α} (hi : i < l.length) (hj : j < l.length) (h : l.getD i d = l.getD j d) : i = j := by
  rw [getD_get hi, getD_get hj] at h
  exact (List.getElem_inj nd).mp h
theorem mem_getD {α : Type} {l : List α} {x d : α} (h : x ∈ l) : ∃ i, i < l.length ∧ l.getD i d = x := by
  obtain ⟨i, hi, e⟩ := List.getElem_of_mem h
  exact ⟨i, hi, by rw [getD_get hi, e]⟩
theorem map_getD {α β : Type} {f : α → β} {l : List α} {i : Nat} {d : α} {e : β} (h : i < l.length) : (l.map f).getD i e = f (l.getD i d) := by
  rw [getD_get (by simpa using h), getD_get h, List.getElem_map]
theorem sub_length : ∀ {l1 l2 : List Nat}, l1.Nodup → (∀ x ∈ l1, x ∈ l2) → l1.length ≤ l2.length
  | [], _, _, _ => Nat.zero_le _
  | x :: l, l2, nd, h => by
    have hx := h x List.mem_cons_self
    have ih := sub_length (l1 := l) (l2 := l2.erase x) (List.nodup_cons.mp nd).2 fun y hy => by
      have : y ≠ x := fun e => (List.nodup_cons.mp nd).1 (e ▸ hy)
      exact (List.mem_erase_of_ne this).mpr (h y (List.mem_cons_of_mem _ hy))
    rw [List.length_erase_of_mem hx] at ih
    have := List.length_pos_of_mem hx
    rw [List.length_cons]; omega
theorem getD_app {p : List Nat} {j v : Nat} : (p ++ [v]).getD j 0 = if j = p.length then v else p.getD j 0 := by
  simp only [List.getD_eq_getElem?_getD]
  by_cases h : j < p.length
  · rw [List.getElem?_append_left h, if_neg (by omega)]
  · by_cases h2 : j = p.length
    · subst h2; simp
    · rw [if_neg h2, List.getElem?_append_right (by omega), List.getElem?_eq_none (by simp; omega), List.getElem?_eq_none (by omega)]
theorem mapM_toP {us : List Nat} {h : AH} {k : Nat} : (us.map dN).mapM (D.toP h k) = some (us.map fun u : Nat => PyData.int (u : Int)) := by
  induction us with
  | nil => rfl
  | cons u us ih => rw [List.map_cons, List.mapM_cons, ih]; unfold dN D.toP; cases k <;> rfl
theorem toP_list {us : List Nat} {h : AH} {r : Nat} (hr : h[r]? = some (.lst (us.map dN))) : (D.ref r).toP h 20 = some (.list (us.map fun u : Nat => PyData.int (u : Int))) := by
  unfold D.toP
  rw [hr]
  show ((us.map dN).mapM (D.toP h 19)).map PyData.list = _
  rw [mapM_toP]; rfl
theorem eqv_int {a b : Int} : PyData.eqv (.int a) (.int b) = (a == b) := by simp [PyData.eqv]
theorem any_N (us : List Nat) (k : Nat) : (us.map fun u : Nat => PyData.int (u : Int)).any (fun z => PyData.eqv z (.int (k : Int))) = us.contains k := by
  induction us with
  | nil => rfl
  | cons u us ih =>
    rw [List.map_cons, List.any_cons, List.contains_cons, ih, eqv_int, beq_nat, Bool.beq_comm (a := k)]
theorem notIn_N {us : List Nat} {h : AH} {r k : Nat} (hr : h[r]? = some (.lst (us.map dN))) : oNotIn (.int (k : Int)) (.ref r) h = .ok (.bl (!us.contains k)) h := by
  unfold oNotIn
  have e1 : (D.int (k : Int)).toP h 20 = some (.int k) := rfl
  have e2 : Rf.listOf h (.ref r) = some (us.map dN) := by simp [Rf.listOf, hr]
  rw [toP_list hr, e1, e2]
  simp only [any_N]
theorem eqvAll_N : ∀ {us vs : List Nat}, PyData.eqvAll (us.map fun u : Nat => PyData.int (u : Int)) (vs.map fun u : Nat => PyData.int (u : Int)) = decide (us = vs)
  | [], [] => by simp [PyData.eqvAll]
  | [], v :: vs => by simp [PyData.eqvAll]
  | u :: us, [] => by simp [PyData.eqvAll]
  | u :: us, v :: vs => by
    rw [List.map_cons, List.map_cons, PyData.eqvAll, eqvAll_N, eqv_int, beq_nat]
    by_cases h : u = v
    · subst h; simp
    · simp [h]
theorem oEq_L {us vs : List Nat} {h : AH} {r q : Nat} (hr : h[r]? = some (.lst (us.map dN))) (hq : h[q]? = some (.lst (vs.map dN))) : oEq (.ref r) (.ref q) h = .ok (.bl (decide (us = vs))) h := by
  unfold oEq
  rw [toP_list hr, toP_list hq]
  simp only [PyData.eqv, eqvAll_N]
@[simp] theorem oMul_ref_ (r : Nat) (i : Int) (h : AH) : oMul (.ref r) (.int i) h = (match h[r]? with
    | some (.lst xs) => if RepOk xs.length i then .ok (.ref h.length) (h ++ [.lst (List.replicate i.toNat xs).flatten]) else .stuck
    | _ => .stuck) := rfl
theorem repOk_1 {n : Nat} (h : n ≤ 16777216) : RepOk 1 (n : Int) := ⟨by omega, by omega, by rw [sizeLine_eq]; omega⟩
theorem rep_zero (n : Nat) : (List.replicate n [D.int 0]).flatten = (List.replicate n 0).map dN := by
  induction n with
  | zero => rfl
  | succ n ih => rw [List.replicate_succ, List.replicate_succ, List.flatten_cons, ih]; rfl
theorem loopM {α : Type} {φ : α → D} {k : Nat} {b : SM} (P : Nat → AE → AH → Prop) (xs : List α) {e : AE} {h : AH} (p : P 0 e h)
    (st : ∀ (i : Nat) (x : α) (e : AE) (h : AH), xs[i]? = some x → P i e h → ∃ e' h', b (e.set k (some (φ x))) h = .nx e' h' ∧ P (i + 1) e' h') : ∃ e' h', sLoop (gVar k) b (xs.map φ) e h = .nx e' h' ∧ P xs.length e' h' := by
  have := loop_inv (g := gVar k) (b := b) P (xs.map φ) 0 e h p fun i d e h hd hp => by
    rw [List.getElem?_map] at hd
    cases hx : xs[i]? with
    | none => rw [hx] at hd; cases hd
    | some x =>
      rw [hx] at hd
      cases hd
      rw [Nat.zero_add] at hp
      obtain ⟨e', h', q, p'⟩ := st i x e h hx hp
      exact ⟨e', h', q, by rwa [Nat.zero_add]⟩
  simpa using this
theorem loopM_ret {α : Type} {φ : α → D} {k : Nat} {b : SM} (P : Nat → AE → AH → Prop) (R : D → AH → Prop) (xs : List α) {e : AE} {h : AH} (p : P 0 e h)
    (st : ∀ (i : Nat) (x : α) (e : AE) (h : AH), xs[i]? = some x → P i e h → (∃ e' h', b (e.set k (some (φ x))) h = .nx e' h' ∧ P (i + 1) e' h') ∨ ∃ d' h', b (e.set k (some (φ x))) h = .rt d' h' ∧ R d' h') :
    (∃ e' h', sLoop (gVar k) b (xs.map φ) e h = .nx e' h' ∧ P xs.length e' h') ∨ ∃ d' h', sLoop (gVar k) b (xs.map φ) e h = .rt d' h' ∧ R d' h' := by
  have := loop_ret (g := gVar k) (b := b) P R (xs.map φ) 0 e h p fun i d e h hd hp => by
    rw [List.getElem?_map] at hd
    cases hx : xs[i]? with
    | none => rw [hx] at hd; cases hd
    | some x =>
      rw [hx] at hd
      cases hd
      rw [Nat.zero_add] at hp
      rcases st i x e h hx hp with ⟨e', h', q, p'⟩ | z
      · exact .inl ⟨e', h', q, by rwa [Nat.zero_add]⟩
      · exact .inr z
  simpa using this
theorem min_ex {P : Nat → Prop} (q : ∃ m, P m) : ∃ m, P m ∧ ∀ m', P m' → m ≤ m' := by
  obtain ⟨m, hm⟩ := q
  induction m using Nat.strongRecOn with
  | _ m ih =>
    by_cases z : ∃ k, k < m ∧ P k
    · obtain ⟨k, hk, pk⟩ := z
      exact ih k hk pk
    · exact ⟨m, hm, fun m' pm => Nat.le_of_not_lt fun lt => z ⟨m', lt, pm⟩⟩
open Classical in
theorem while_ix {c : EM} {b : SM} (P : Nat → AE → AH → Prop) (T : AE → AH → Prop)
    (st : ∀ m e h, P m e h → (∃ h1, c e h = .ok (.bl false) h1 ∧ T e h1) ∨ ∃ h1, c e h = .ok (.bl true) h1 ∧ ∃ e' h', b e h1 = .nx e' h' ∧ ∃ m', m' < m ∧ P m' e' h') (m : Nat) (e : AE) (h : AH) (p : P m e h) : ∃ e' h', sWhile c b e h = .nx e' h' ∧ T e' h' := by
  let μ : AE → AH → Nat := fun e h => if q : ∃ m, P m e h then Classical.choose (min_ex q) else 0
  have hμ : ∀ m e h, P m e h → P (μ e h) e h ∧ μ e h ≤ m := fun m e h pm => by
    have q : ∃ m, P m e h := ⟨m, pm⟩
    have e1 : μ e h = Classical.choose (min_ex q) := dif_pos q
    have := Classical.choose_spec (min_ex q)
    rw [e1]
    exact ⟨this.1, this.2 m pm⟩
  refine while_inv (P := fun e h => ∃ m, P m e h) μ T (fun e h pe => ?_) (μ e h) e h (Nat.le_refl _) ⟨m, p⟩
  obtain ⟨m0, pm0⟩ := pe
  have h1 := hμ m0 e h pm0
  rcases st _ e h h1.1 with z | ⟨h1', hc, e', h', hb, m', lt, p'⟩
  · exact .inl z
  · exact .inr ⟨h1', hc, e', h', hb, ⟨m', p'⟩, Nat.lt_of_le_of_lt (hμ m' e' h' p').2 lt⟩
theorem gc_old {h h' : AH} {r : Nat} (hr : r < h.length) : gc h (.ok (.ref r) h') = .ok (.ref r) h' := by
  unfold gc
  dsimp only
  split
  · rw [if_neg (by unfold D.pure; exact Bool.false_ne_true), if_neg (by omega)]
  · rfl
theorem cast_ite {c : Prop} [Decidable c] {a b : Nat} : ((if c then a else b : Nat) : Int) = if c then (a : Int) else (b : Int) := by split <;> rfl
theorem loop_brk {g : GM} {b : SM} (P : Nat → AE → AH → Prop) (B : AE → AH → Prop) : ∀ (ds : List D) (k : Nat) (e : AE) (h : AH), P k e h →
    (∀ (i : Nat) (d : D) (e : AE) (h : AH), ds[i]? = some d → P (k + i) e h → (∃ e' h', (onlyNx (g d e h)).then b = .nx e' h' ∧ P (k + i + 1) e' h') ∨ ∃ e' h', (onlyNx (g d e h)).then b = .bk e' h' ∧ B e' h') →
    ∃ e' h', sLoop g b ds e h = .nx e' h' ∧ (P (k + ds.length) e' h' ∨ B e' h')
  | [], k, e, h, p, _ => ⟨e, h, rfl, .inl p⟩
  | d :: ds, k, e, h, p, st => by
    rcases st 0 d e h rfl p with ⟨e1, h1, q, p1⟩ | ⟨e1, h1, q, r⟩
    · obtain ⟨e2, h2, q2, p2⟩ := loop_brk P B ds (k + 1) e1 h1 p1 fun i d' e' h' hd hp => by
          have hp' : P (k + (i + 1)) e' h' := by rwa [show k + (i + 1) = k + 1 + i by omega]
          rcases st (i + 1) d' e' h' (by simpa using hd) hp' with ⟨e3, h3, a, c⟩ | z
          · exact .inl ⟨e3, h3, a, by rwa [show k + 1 + i + 1 = k + (i + 1) + 1 by omega]⟩
          · exact .inr z
      refine ⟨e2, h2, ?_, ?_⟩
      · unfold sLoop
        rw [q]
        exact q2
      · rw [List.length_cons, show k + (ds.length + 1) = k + 1 + ds.length by omega]; exact p2
    · refine ⟨e1, h1, ?_, .inr r⟩
      unfold sLoop
      rw [q]
      rfl
theorem loopN_brk {k : Nat} {b : SM} (P : Nat → AE → AH → Prop) (B : AE → AH → Prop) (n : Nat) {e : AE} {h : AH} (p : P 0 e h)
    (st : ∀ (i : Nat) (e : AE) (h : AH), i < n → P i e h → (∃ e' h', b (e.set k (some (dN i))) h = .nx e' h' ∧ P (i + 1) e' h') ∨ ∃ e' h', b (e.set k (some (dN i))) h = .bk e' h' ∧ B e' h') : ∃ e' h', sLoop (gVar k) b ((List.range n).map dN) e h = .nx e' h' ∧ (P n e' h' ∨ B e' h') := by
  have := loop_brk (g := gVar k) (b := b) P B ((List.range n).map dN) 0 e h p fun i d e h hd hp => by
    rw [List.getElem?_map] at hd
    by_cases hi : i < n
    · rw [List.getElem?_range hi] at hd
      cases hd
      rw [Nat.zero_add] at hp
      rcases st i e h hi hp with ⟨e', h', q, p'⟩ | z
      · exact .inl ⟨e', h', q, by rwa [Nat.zero_add]⟩
      · exact .inr z
    · rw [List.getElem?_eq_none (by simp; omega)] at hd; cases hd
  simpa using this
@[simp] theorem ci_ii (i : Int) (h : AH) : cIsi [.int i, .ty "int"] h = .ok (.bl true) h := by rw [cIsi_int _ _ _ (by decide)]; rfl
@[simp] theorem ci_ib (i : Int) (h : AH) : cIsi [.int i, .ty "bool"] h = .ok (.bl false) h := by rw [cIsi_int _ _ _ (by decide)]; rfl
@[simp] theorem ci_tt (ds : List D) (h : AH) : cIsi [.tup ds, .ty "tuple"] h = .ok (.bl true) h := by rw [cIsi_tup _ _ _ (by decide)]; rfl
@[simp] theorem oAdd_tup (xs ys : List D) (h : AH) : oAdd (.tup xs) (.tup ys) h = if Fits (xs.length + ys.length) then .ok (.tup (xs ++ ys)) h else .stuck := rfl
theorem oAdd_ref {r q : Nat} {xs ys : List D} {h : AH} (hr : h[r]? = some (.lst xs)) (hq : h[q]? = some (.lst ys)) : oAdd (.ref r) (.ref q) h = if Fits (xs.length + ys.length) then .ok (.ref h.length) (h ++ [.lst (xs ++ ys)]) else .stuck := by
  simp [oAdd, hr, hq]
theorem lc_inv {α : Type} {φ : α → D} {k : Nat} {te : EM} {e0 : AE} {ds : List D} (Q : Nat → List D → AH → Prop) : ∀ (r : List α) (i : Nat) (acc : List D) (h : AH), ds.drop i = r.map φ → acc.length + r.length ≤ sizeLine → Q i acc h →
    (∀ (j : Nat) (x : α) (acc : List D) (h : AH), r[j]? = some x → Q (i + j) acc h → ∃ d h', te (e0.set k (some (φ x))) h = .ok d h' ∧ Q (i + j + 1) (acc ++ [d]) h') →
    ∃ acc' h', lcN (stat ds) (gVar k) (eC (.bl true)) te e0 (r.length + 1) i acc h = .inr (acc', h') ∧ Q (i + r.length) acc' h'
  | [], i, acc, h, hd, _, q, _ => by
    have hi : ds[i]? = none := by
      have q : ds.length - i = 0 := by simpa using congrArg List.length hd
      have : ds.length ≤ i := by omega
      exact List.getElem?_eq_none_iff.mpr this
    refine ⟨acc, h, ?_, q⟩
    unfold lcN
    simp [stat, hi]
  | x :: r, i, acc, h, hd, hl, q, st => by
    obtain ⟨hi, hr⟩ := drop_cons (show ds.drop i = φ x :: r.map φ from hd)
    rw [List.length_cons] at hl ⊢
    obtain ⟨d, h1, e1, q1⟩ := st 0 x acc h rfl q
    obtain ⟨acc', h', e2, q2⟩ := lc_inv (φ := φ) (k := k) (te := te) (e0 := e0) (ds := ds) Q r (i + 1) (acc ++ [d]) h1 hr (by simp; omega) q1 fun j y acc h hy hq => by
      have hq' : Q (i + (j + 1)) acc h := by rwa [show i + (j + 1) = i + 1 + j by omega]
      obtain ⟨d, h', e, q⟩ := st (j + 1) y acc h (by simpa using hy) hq'
      exact ⟨d, h', e, by rwa [show i + 1 + j + 1 = i + (j + 1) + 1 by omega]⟩
    refine ⟨acc', h', ?_, by rwa [show i + (r.length + 1) = i + 1 + r.length by omega]⟩
    unfold lcN
    simp only [stat, hi, gVar_, eC_, e1]
    rw [if_pos (show FitsL acc.length from (by omega : acc.length < sizeLine))]
    exact e2
theorem eLc_inv {α : Type} {φ : α → D} {k : Nat} {mi : IM} {te : EM} {vs : List Nat} {e : AE} {h h1 : AH} (xs : List α) (hm : mi e h = .ok (stat (xs.map φ)) h1) (hn : xs.length ≤ 1000) (Q : Nat → List D → AH → Prop) (q : Q 0 [] h1)
    (st : ∀ (i : Nat) (x : α) (acc : List D) (h : AH), xs[i]? = some x → Q i acc h → ∃ d h', te ((wipeE e vs).set k (some (φ x))) h = .ok d h' ∧ Q (i + 1) (acc ++ [d]) h') :
    ∃ acc h', eLc mi (gVar k) (eC (.bl true)) te vs e h = .ok (.ref h'.length) (h' ++ [.lst acc]) ∧ Q xs.length acc h' := by
  obtain ⟨acc, h', e1, q1⟩ := lc_inv (φ := φ) (k := k) (te := te) (e0 := wipeE e vs) (ds := xs.map φ) Q xs 0 [] h1 rfl (by rw [sizeLine_eq]; simp; omega) q fun j x acc h hx hq => by
    rw [Nat.zero_add] at hq ⊢
    exact st j x acc h hx hq
  refine ⟨acc, h', ?_, by simpa using q1⟩
  unfold eLc
  rw [hm]
  have hn : (stat (xs.map φ)).n = xs.length := by simp [stat]
  simp only [hn, e1]
theorem sqE {a b : SM} {e e1 : AE} {h h1 : AH} {d : D} (ha : a e h = .nx e1 h1) (hb : ∃ h', b e1 h1 = .rt d h') : ∃ h', sSeq a b e h = .rt d h' := by
  obtain ⟨h', q⟩ := hb
  exact ⟨h', by rw [sSeq_, ha]; exact q⟩
theorem gc_bl {h h' : AH} {b : Bool} : ∃ h'', gc h (.ok (.bl b) h') = .ok (.bl b) h'' := by
  unfold gc
  dsimp only
  split
  · exact ⟨_, by rw [if_pos (by rfl)]⟩
  · exact ⟨_, rfl⟩
end Rf

set_option maxHeartbeats 1000000
/-! Perms as lists, labels, merges (first written for k11). -/
namespace Rf
open PySem L2
/-- a perm of n points -/
structure IsP (n : Nat) (p : List Nat) : Prop where
  len : p.length = n
  lt : ∀ i, i < n → p.getD i 0 < n
  inj : ∀ i j, i < n → j < n → p.getD i 0 = p.getD j 0 → i = j
theorem IsP.swap {n : Nat} {p : List Nat} (P : IsP n p) {a b : Nat} (ha : a < n) (hb : b < n) : IsP n ((p.set a (p.getD b 0)).set b (p.getD a 0)) := by
  have la : a < p.length := by rw [P.len]; exact ha
  have lb : b < (p.set a (p.getD b 0)).length := by rw [List.length_set, P.len]; exact hb
  have e : ∀ j, ((p.set a (p.getD b 0)).set b (p.getD a 0)).getD j 0 = p.getD (if b = j then a else if a = j then b else j) 0 := fun j => by
    rw [getD_set lb, getD_set la]
    split
    · rfl
    · split <;> rfl
  have l : ∀ j, j < n → (if b = j then a else if a = j then b else j) < n := fun j hj => by
    split
    · exact ha
    · split
      · exact hb
      · exact hj
  refine ⟨by simp [P.len], fun i hi => by rw [e]; exact P.lt _ (l i hi), fun i j hi hj h => ?_⟩
  rw [e, e] at h
  have q := P.inj _ _ (l i hi) (l j hj) h
  split at q <;> split at q <;> first
    | omega
    | (split at q <;> first
      | omega
      | (split at q <;> omega))
theorem IsP.range (n : Nat) : IsP n (List.range n) := by
  have e : ∀ i, i < n → (List.range n).getD i 0 = i := fun i hi => by simp [hi]
  exact ⟨by simp, fun i hi => by rw [e i hi]; exact hi, fun i j hi hj h => by rw [e i hi, e j hj] at h; exact h⟩
def Canon (L : List Nat) : Prop := ∀ j, j < L.length → L.getD j 0 ≤ j ∧ L.getD (L.getD j 0) 0 = L.getD j 0
theorem ext_getD {L M : List Nat} (l : L.length = M.length) (h : ∀ i, i < L.length → L.getD i 0 = M.getD i 0) : L = M := by
  apply List.ext_getElem l
  intro i h1 h2
  have := h i h1
  rwa [getD_get h1, getD_get h2] at this
theorem range_D {n i : Nat} (hi : i < n) : (List.range n).getD i 0 = i := by simp [hi]
theorem range_canon (n : Nat) : Canon (List.range n) := fun i hi => by
  rw [List.length_range] at hi
  rw [range_D hi, range_D hi]; exact ⟨Nat.le_refl _, rfl⟩
theorem range_eq {n : Nat} {f : Nat → Nat} {i j : Nat} (hi : i < n) (hj : j < n) (h : (List.range n).getD i 0 = (List.range n).getD j 0) : f i = f j := by
  rw [range_D hi, range_D hj] at h; rw [h]
/-- one merge -/
def mrg (L : List Nat) (a b : Nat) : List Nat := L.map fun c => if c = (if L.getD b 0 > L.getD a 0 then L.getD b 0 else L.getD a 0) then (if L.getD b 0 < L.getD a 0 then L.getD b 0 else L.getD a 0) else c
def cnt (L : List Nat) : Nat := ((List.range L.length).filter fun i => L.getD i 0 == i).length
section
variable {L : List Nat} {a b n : Nat}
theorem mrg_len : (mrg L a b).length = L.length := by simp [mrg]
theorem mrg_at {i : Nat} (hi : i < L.length) : (mrg L a b).getD i 0 = if L.getD i 0 = (if L.getD b 0 > L.getD a 0 then L.getD b 0 else L.getD a 0) then (if L.getD b 0 < L.getD a 0 then L.getD b 0 else L.getD a 0) else L.getD i 0 := by
  unfold mrg; rw [map_getD (d := 0) hi]
theorem mrg_lh : ∃ lo hi, lo ≤ hi ∧ ((lo = L.getD a 0 ∧ hi = L.getD b 0) ∨ (lo = L.getD b 0 ∧ hi = L.getD a 0)) ∧ ∀ i, i < L.length → (mrg L a b).getD i 0 = if L.getD i 0 = hi then lo else L.getD i 0 := by
  by_cases q : L.getD b 0 < L.getD a 0
  · refine ⟨L.getD b 0, L.getD a 0, by omega, .inr ⟨rfl, rfl⟩, fun i hi => ?_⟩
    rw [mrg_at hi, if_neg (show ¬ L.getD b 0 > L.getD a 0 by omega), if_pos q]
  · refine ⟨L.getD a 0, L.getD b 0, by omega, .inl ⟨rfl, rfl⟩, fun i hi => ?_⟩
    rw [mrg_at hi, if_neg q]
    by_cases q2 : L.getD b 0 > L.getD a 0
    · rw [if_pos q2]
    · rw [if_neg q2]
      have : L.getD a 0 = L.getD b 0 := by omega
      rw [this]
theorem mrg_same (h : L.getD a 0 = L.getD b 0) : mrg L a b = L := ext_getD mrg_len fun i hi => by
  rw [mrg_len] at hi
  obtain ⟨lo, up, h1, h2, h3⟩ := mrg_lh (L := L) (a := a) (b := b)
  rw [h3 i hi]
  split <;> omega
theorem mrg_canon (C : Canon L) (ha : a < L.length) (hb : b < L.length) : Canon (mrg L a b) := fun i hi => by
  rw [mrg_len] at hi
  have ci := C i hi
  have ca := C a ha
  have cb := C b hb
  obtain ⟨lo, up, h1, h2, h3⟩ := mrg_lh (L := L) (a := a) (b := b)
  have hl : lo < L.length ∧ L.getD lo 0 = lo := by
    rcases h2 with ⟨rfl, _⟩ | ⟨rfl, _⟩
    · exact ⟨by omega, ca.2⟩
    · exact ⟨by omega, cb.2⟩
  rw [h3 i hi]
  by_cases q : L.getD i 0 = up
  · rw [if_pos q, h3 _ hl.1, hl.2]
    refine ⟨by omega, ?_⟩
    split <;> rfl
  · rw [if_neg q, h3 _ (by omega), ci.2, if_neg q]
    exact ⟨ci.1, rfl⟩
/-- what a merge relates -/
theorem mrg_eq {i j : Nat} (hi : i < L.length) (hj : j < L.length) (h : (mrg L a b).getD i 0 = (mrg L a b).getD j 0) :
    L.getD i 0 = L.getD j 0 ∨ (L.getD i 0 = L.getD a 0 ∧ L.getD j 0 = L.getD b 0) ∨ (L.getD i 0 = L.getD b 0 ∧ L.getD j 0 = L.getD a 0) := by
  obtain ⟨lo, up, h1, h2, h3⟩ := mrg_lh (L := L) (a := a) (b := b)
  rw [h3 i hi, h3 j hj] at h
  split at h <;> split at h <;> omega
theorem mrg_keep {i j : Nat} (hi : i < L.length) (hj : j < L.length) (h : L.getD i 0 = L.getD j 0) : (mrg L a b).getD i 0 = (mrg L a b).getD j 0 := by
  rw [mrg_at hi, mrg_at hj, h]
theorem mrg_do (ha : a < L.length) (hb : b < L.length) : (mrg L a b).getD a 0 = (mrg L a b).getD b 0 := by
  obtain ⟨lo, up, h1, h2, h3⟩ := mrg_lh (L := L) (a := a) (b := b)
  rw [h3 a ha, h3 b hb]
  split <;> split <;> omega
theorem cnt_le : cnt L ≤ L.length := Nat.le_trans (List.length_filter_le _ _) (by simp)
theorem cnt_pos (C : Canon L) (h : 1 ≤ L.length) : 1 ≤ cnt L := by
  have := C 0 (by omega)
  exact List.length_pos_of_mem (a := 0) (List.mem_filter.mpr ⟨List.mem_range.mpr (by omega), by simp only [beq_iff_eq]; omega⟩)
/-- a merge of two classes leaves fewer -/
theorem mrg_cnt (C : Canon L) (ha : a < L.length) (hb : b < L.length) (h : L.getD a 0 ≠ L.getD b 0) : cnt (mrg L a b) + 1 ≤ cnt L := by
  have ca := C a ha
  have cb := C b hb
  obtain ⟨lo, M, h1', h2', h3⟩ := mrg_lh (L := L) (a := a) (b := b)
  have hMl : M < L.length := by omega
  have hMM : L.getD M 0 = M := by rcases h2' with ⟨_, e⟩ | ⟨_, e⟩ <;> rw [e] <;> omega
  have hMm : (mrg L a b).getD M 0 ≠ M := by
    rw [h3 M hMl, if_pos hMM]
    omega
  have := sub_length (l1 := M :: ((List.range (mrg L a b).length).filter fun i => (mrg L a b).getD i 0 == i)) (l2 := (List.range L.length).filter fun i => L.getD i 0 == i)
    (List.nodup_cons.mpr ⟨fun hm => hMm (by simpa using (List.mem_filter.mp hm).2), List.Pairwise.filter _ List.nodup_range⟩) fun x hx => by
      rcases List.mem_cons.mp hx with rfl | hx
      · exact List.mem_filter.mpr ⟨List.mem_range.mpr hMl, by simpa using hMM⟩
      · obtain ⟨h1, h2⟩ := List.mem_filter.mp hx
        rw [List.mem_range, mrg_len] at h1
        rw [beq_iff_eq] at h2
        refine List.mem_filter.mpr ⟨List.mem_range.mpr h1, ?_⟩
        rw [beq_iff_eq]
        rw [h3 x h1] at h2
        have cx := C x h1
        have ra := C a ha
        split at h2
        · rename_i e
          have lx : L.getD lo 0 = lo := by rcases h2' with ⟨e, _⟩ | ⟨e, _⟩ <;> rw [e] <;> omega
          rw [h2] at lx
          exact lx
        · exact h2
  rw [List.length_cons] at this
  exact this
end
/-! a perm meets each point; inverses are one -/
theorem IsP.surj {n : Nat} {p : List Nat} (P : IsP n p) {y : Nat} (hy : y < n) : ∃ i, i < n ∧ p.getD i 0 = y := by
  apply Classical.byContradiction
  intro no
  have nd : ((List.range n).map fun i => p.getD i 0).Nodup := by
    show List.Pairwise _ _
    rw [List.pairwise_map]
    exact List.nodup_range.imp_of_mem fun {a b} ha hb ne e => ne (P.inj a b (List.mem_range.mp ha) (List.mem_range.mp hb) e)
  have l := sub_length nd (l2 := (List.range n).erase y) fun x hx => by
    obtain ⟨i, hi, rfl⟩ := List.mem_map.mp hx
    rw [List.mem_range] at hi
    exact (List.mem_erase_of_ne fun e => no ⟨i, hi, e⟩).mpr (List.mem_range.mpr (P.lt i hi))
  rw [List.length_erase_of_mem (List.mem_range.mpr hy)] at l
  simp at l
  omega
def Inv (n : Nat) (p q : List Nat) : Prop := q.length = n ∧ ∀ i, i < n → q.getD (p.getD i 0) 0 = i
theorem Inv.uniq {n : Nat} {p q q' : List Nat} (P : IsP n p) (a : Inv n p q) (b : Inv n p q') : q = q' := ext_getD (by rw [a.1, b.1]) fun y hy => by
  obtain ⟨i, hi, rfl⟩ := P.surj (y := y) (by rw [← a.1]; exact hy)
  rw [a.2 i hi, b.2 i hi]
theorem Inv.isP {n : Nat} {p q : List Nat} (P : IsP n p) (a : Inv n p q) : IsP n q :=
  ⟨a.1, fun y hy => by
    obtain ⟨i, hi, rfl⟩ := P.surj hy
    rw [a.2 i hi]; exact hi, fun y z hy hz h => by
    obtain ⟨i, hi, rfl⟩ := P.surj hy
    obtain ⟨j, hj, rfl⟩ := P.surj hz
    rw [a.2 i hi, a.2 j hj] at h
    rw [h]⟩
theorem Inv.back {n : Nat} {p q : List Nat} (P : IsP n p) (a : Inv n p q) {y : Nat} (hy : y < n) : p.getD (q.getD y 0) 0 = y := by
  obtain ⟨i, hi, rfl⟩ := P.surj hy
  rw [a.2 i hi]
/-! [f x y for x in xs for y in ys], nothing else changes -/
theorem lcI_map {β : Type} {ψ : β → D} {k : Nat} {te : EM} {e0 : AE} {h1 : AH} (f : β → D) {ds : List D} : ∀ (r : List β) (i : Nat) (acc : List D), ds.drop i = r.map ψ → acc.length + r.length ≤ sizeLine →
    (∀ y ∈ r, ∀ acc, te (e0.set k (some (ψ y))) (h1 ++ [.lst acc]) = .ok (f y) (h1 ++ [.lst acc])) →
    lcI (stat ds) (gVar k) (eC (.bl true)) te e0 h1.length (r.length + 1) i (h1 ++ [.lst acc]) = some (h1 ++ [.lst (acc ++ r.map f)])
  | [], i, acc, hd, _, _ => by
    have hi : ds[i]? = none := by
      have q : ds.length - i = 0 := by simpa using congrArg List.length hd
      have : ds.length ≤ i := by omega
      exact List.getElem?_eq_none_iff.mpr this
    unfold lcI
    simp [stat, hi]
  | y :: r, i, acc, hd, hl, hf => by
    obtain ⟨hi, hr⟩ := drop_cons (show ds.drop i = ψ y :: r.map ψ from hd)
    rw [List.length_cons] at hl ⊢
    have ih := lcI_map (ψ := ψ) (k := k) (te := te) (e0 := e0) (h1 := h1) f (ds := ds) r (i + 1) (acc ++ [f y]) hr (by simp; omega) fun y hy => hf y (List.mem_cons_of_mem _ hy)
    unfold lcI
    have ap : app1 h1.length (f y) (h1 ++ [.lst acc]) = some (h1 ++ [.lst (acc ++ [f y])]) := by
      unfold app1
      rw [getLast_app]
      dsimp only
      rw [if_pos (show FitsL acc.length from (by omega : acc.length < sizeLine))]
      simp
    simp only [stat, hi, gVar_, eC_, hf y List.mem_cons_self acc, ap]
    simp only [stat] at ih
    rw [ih, List.map_cons, List.append_assoc]; rfl
theorem lcO_map {α β : Type} {φ : α → D} {ψ : β → D} {k k1 : Nat} {mi1 : IM} {te : EM} {vs1 : List Nat} {e0 : AE} {h1 : AH} (ys : α → List β) (f : α → β → D) {ds : List D} : ∀ (r : List α) (i : Nat) (acc : List D), ds.drop i = r.map φ → acc.length + (r.flatMap fun x => (ys x).map (f x)).length ≤ sizeLine →
    (∀ x ∈ r, ∀ acc, mi1 (e0.set k (some (φ x))) (h1 ++ [.lst acc]) = .ok (stat ((ys x).map ψ)) (h1 ++ [.lst acc])) →
    (∀ x ∈ r, ∀ y ∈ ys x, ∀ acc, te ((wipeE (e0.set k (some (φ x))) vs1).set k1 (some (ψ y))) (h1 ++ [.lst acc]) = .ok (f x y) (h1 ++ [.lst acc])) →
    lcO (stat ds) (gVar k) (eC (.bl true)) mi1 (gVar k1) (eC (.bl true)) te vs1 e0 h1.length (r.length + 1) i (h1 ++ [.lst acc]) = some (h1 ++ [.lst (acc ++ r.flatMap fun x => (ys x).map (f x))])
  | [], i, acc, hd, _, _, _ => by
    have hi : ds[i]? = none := by
      have q : ds.length - i = 0 := by simpa using congrArg List.length hd
      have : ds.length ≤ i := by omega
      exact List.getElem?_eq_none_iff.mpr this
    unfold lcO
    simp [stat, hi]
  | x :: r, i, acc, hd, hl, hm, hf => by
    obtain ⟨hi, hr⟩ := drop_cons (show ds.drop i = φ x :: r.map φ from hd)
    rw [List.flatMap_cons, List.length_append, List.length_map] at hl
    rw [List.length_cons]
    have ih := lcO_map (φ := φ) (ψ := ψ) (k := k) (k1 := k1) (mi1 := mi1) (te := te) (vs1 := vs1) (e0 := e0) (h1 := h1) ys f (ds := ds) r (i + 1) (acc ++ (ys x).map (f x)) hr (by simp at hl ⊢; omega) (fun y hy => hm y (List.mem_cons_of_mem _ hy)) fun y hy => hf y (List.mem_cons_of_mem _ hy)
    have ii := lcI_map (ψ := ψ) (k := k1) (te := te) (e0 := wipeE (e0.set k (some (φ x))) vs1) (h1 := h1) (f x) (ds := (ys x).map ψ) (ys x) 0 acc rfl (by omega) (hf x List.mem_cons_self)
    unfold lcO
    simp only [stat, hi, gVar_, eC_, hm x List.mem_cons_self acc]
    have hn : ((ys x).map ψ).length = (ys x).length := by simp
    simp only [stat, hn] at ii ⊢
    rw [ii]
    dsimp only
    simp only [stat] at ih
    rw [ih, List.flatMap_cons, List.append_assoc]
theorem eLc2_map {α β : Type} {φ : α → D} {ψ : β → D} {k k1 : Nat} {mi mi1 : IM} {te : EM} {vs vs1 : List Nat} {e : AE} {h h1 : AH} (xs : List α) (ys : α → List β) (f : α → β → D) (hm : mi e h = .ok (stat (xs.map φ)) h1) (hl : (xs.flatMap fun x => (ys x).map (f x)).length ≤ sizeLine)
    (hi : ∀ x ∈ xs, ∀ acc, mi1 ((wipeE e vs).set k (some (φ x))) (h1 ++ [.lst acc]) = .ok (stat ((ys x).map ψ)) (h1 ++ [.lst acc]))
    (hf : ∀ x ∈ xs, ∀ y ∈ ys x, ∀ acc, te ((wipeE ((wipeE e vs).set k (some (φ x))) vs1).set k1 (some (ψ y))) (h1 ++ [.lst acc]) = .ok (f x y) (h1 ++ [.lst acc])) :
    eLc2 mi (gVar k) (eC (.bl true)) mi1 (gVar k1) (eC (.bl true)) te vs vs1 e h = .ok (.ref h1.length) (h1 ++ [.lst (xs.flatMap fun x => (ys x).map (f x))]) := by
  unfold eLc2
  rw [hm]
  have := lcO_map (φ := φ) (ψ := ψ) (k := k) (k1 := k1) (mi1 := mi1) (te := te) (vs1 := vs1) (e0 := wipeE e vs) (h1 := h1) ys f (ds := xs.map φ) xs 0 [] rfl (by simpa using hl) hi hf
  have hn : (stat (xs.map φ)).n = xs.length := by simp [stat]
  simp only [hn, this, List.nil_append]
end Rf

set_option maxHeartbeats 1000000
/-! Dicts whose keys are numbers 0, 1, ..; sorted of numbers; what a deep list leaves. -/
namespace Rf
open PySem L2
section
variable {α : Type} {f : α → D} {ks : List (Nat × α)} {y z : Nat} {a : α}
def encK (f : α → D) (ks : List (Nat × α)) : List (Key × D) := ks.map fun p => (.inl (p.1 : Int), f p.2)
def lk (ks : List (Nat × α)) (y : Nat) : Option α := (ks.find? fun p => p.1 == y).map (·.2)
def stK (ks : List (Nat × α)) (y : Nat) (a : α) : List (Nat × α) := if (ks.any fun p => p.1 == y) = true then ks.map (fun p => if p.1 = y then (p.1, a) else p) else ks ++ [(y, a)]
theorem inl_eq {y z : Nat} : ((Sum.inl (y : Int) : Key) = Sum.inl (z : Int)) ↔ y = z := by
  constructor
  · intro h; have := Sum.inl.inj h; omega
  · rintro rfl; rfl
theorem encK_len : (encK f ks).length = ks.length := by simp [encK]
theorem valD_enc : valD (encK f ks) (.inl (y : Int)) = (lk ks y).map f := by
  unfold valD lk encK
  induction ks with
  | nil => rfl
  | cons p ks ih =>
    rw [List.map_cons]
    by_cases h : p.1 = y
    · rw [List.find?_cons_of_pos (by simp [inl_eq, h]), List.find?_cons_of_pos (by simpa using h)]; rfl
    · rw [List.find?_cons_of_neg (by simp only [decide_eq_true_eq, inl_eq]; exact h), List.find?_cons_of_neg (by simpa using h)]; exact ih
theorem any_enc : ((encK f ks).any fun kv => decide (kv.1 = .inl (y : Int))) = ks.any fun p => p.1 == y := by
  unfold encK
  rw [List.any_map]
  congr 1
  funext p
  by_cases h : p.1 = y
  · simp [Function.comp, h]
  · have : ¬ ((Sum.inl (p.1 : Int) : Key) = Sum.inl (y : Int)) := fun e => h (inl_eq.mp e)
    simp [Function.comp, h, this]
theorem setD_enc : setD (encK f ks) (.inl (y : Int)) (f a) = encK f (stK ks y a) := by
  unfold setD stK
  rw [any_enc]
  by_cases q : (ks.any fun p => p.1 == y) = true
  · rw [if_pos q, if_pos q]
    unfold encK
    rw [List.map_map, List.map_map]
    apply List.map_congr_left
    intro p _
    by_cases h : p.1 = y
    · simp [Function.comp, h]
    · have : ¬ ((Sum.inl (p.1 : Int) : Key) = Sum.inl (y : Int)) := fun e => h (inl_eq.mp e)
      simp [Function.comp, h, this]
  · rw [if_neg q, if_neg q]
    unfold encK
    rw [List.map_append]; rfl
theorem lk_none : lk ks y = none ↔ y ∉ ks.map (·.1) := by
  unfold lk
  rw [Option.map_eq_none_iff, List.find?_eq_none]
  constructor
  · intro h m
    obtain ⟨p, hp, e⟩ := List.mem_map.mp m
    exact h p hp (by simpa using e)
  · intro h p hp e
    exact h (List.mem_map.mpr ⟨p, hp, by simpa using e⟩)
theorem lk_some_mem (h : lk ks y = some a) : y ∈ ks.map (·.1) := by
  apply Classical.byContradiction
  intro q
  rw [lk_none.mpr q] at h
  cases h
theorem lk_stK : lk (stK ks y a) z = if z = y then some a else lk ks z := by
  unfold stK
  by_cases q : (ks.any fun p => p.1 == y) = true
  · rw [if_pos q]
    induction ks with
    | nil => simp at q
    | cons p ks ih =>
      unfold lk at *
      rw [List.map_cons]
      by_cases h : p.1 = y
      · rw [if_pos h]
        by_cases hz : z = y
        · rw [List.find?_cons_of_pos (by simp [h, hz]), if_pos hz]; rfl
        · rw [List.find?_cons_of_neg (by simp [h]; exact fun e => hz e.symm), if_neg hz, List.find?_cons_of_neg (by simp [h]; exact fun e => hz e.symm)]
          by_cases q2 : (ks.any fun p => p.1 == y) = true
          · rw [ih q2, if_neg hz]
          · congr 1
            have : ks.map (fun p => if p.1 = y then (p.1, a) else p) = ks := by
              rw [List.map_congr_left (g := id), List.map_id]
              intro p' hp'
              have : ¬ p'.1 = y := fun e => q2 (List.any_eq_true.mpr ⟨p', hp', by simpa using e⟩)
              simp [this]
            rw [this]
      · rw [if_neg h]
        have q2 : (ks.any fun p => p.1 == y) = true := by simpa [h] using q
        by_cases hz : p.1 = z
        · rw [List.find?_cons_of_pos (by simpa using hz), List.find?_cons_of_pos (by simpa using hz), if_neg (fun e => h (by rw [hz, e]))]
        · rw [List.find?_cons_of_neg (by simpa using hz), List.find?_cons_of_neg (by simpa using hz)]
          exact ih q2
  · rw [if_neg q]
    have nf : ks.find? (fun p => p.1 == y) = none := by
      rw [List.find?_eq_none]
      intro p hp e
      exact q (List.any_eq_true.mpr ⟨p, hp, e⟩)
    unfold lk
    rw [List.find?_append]
    by_cases hz : z = y
    · subst hz; rw [nf, if_pos rfl]; simp
    · rw [if_neg hz]
      have : [(y, a)].find? (fun p => p.1 == z) = none := by simp; exact fun e => hz e.symm
      rw [this, Option.or_none]
theorem keys_stK : (stK ks y a).map (·.1) = if y ∈ ks.map (·.1) then ks.map (·.1) else ks.map (·.1) ++ [y] := by
  unfold stK
  by_cases q : (ks.any fun p => p.1 == y) = true
  · rw [if_pos q, if_pos (by
      obtain ⟨p, hp, e⟩ := List.any_eq_true.mp q
      exact List.mem_map.mpr ⟨p, hp, by simpa using e⟩), List.map_map]
    apply List.map_congr_left
    intro p _
    by_cases h : p.1 = y <;> simp [Function.comp, h]
  · rw [if_neg q, if_neg (fun m => q (by
      obtain ⟨p, hp, e⟩ := List.mem_map.mp m
      exact List.any_eq_true.mpr ⟨p, hp, by simpa using e⟩)), List.map_append]; rfl
theorem keys_nodup (h : (ks.map (·.1)).Nodup) : ((stK ks y a).map (·.1)).Nodup := by
  rw [keys_stK]
  split
  · exact h
  · rename_i q
    exact List.nodup_append.mpr ⟨h, by simp, fun u hu v hv => by rw [List.mem_singleton] at hv; subst hv; exact fun e => q (e ▸ hu)⟩
theorem keysI_enc : keysI (encK f ks) = some ((ks.map (·.1)).map fun x : Nat => (x : Int)) := by
  unfold encK
  induction ks with
  | nil => rfl
  | cons p ks ih =>
    rw [List.map_cons, keysI, ih]; rfl
end
theorem IsP.nodup {n : Nat} {p : List Nat} (P : IsP n p) : p.Nodup := by
  show List.Pairwise _ _
  rw [List.pairwise_iff_getElem]
  intro i j hi hj lt e
  have := P.inj i j (by rw [← P.len]; exact hi) (by rw [← P.len]; exact hj) (by rw [getD_get hi, getD_get hj]; exact e)
  omega
/-- a perm made from 0, 1, .. by sending the points of S to points of S -/
theorem patchP {n m : Nat} {img : List Nat} (l : img.length = n) (S T : Nat → Nat) (hS : ∀ a, a < m → S a < n) (iS : ∀ a b, a < m → b < m → S a = S b → a = b) (iT : ∀ a b, a < m → b < m → T a = T b → a = b) (TS : ∀ a, a < m → ∃ b, b < m ∧ T a = S b)
    (h1 : ∀ a, a < m → img.getD (S a) 0 = T a) (h2 : ∀ x, x < n → (∀ a, a < m → S a ≠ x) → img.getD x 0 = x) : IsP n img := by
  refine ⟨l, fun x hx => ?_, fun x y hx hy e => ?_⟩
  · by_cases q : ∃ a, a < m ∧ S a = x
    · obtain ⟨a, ha, rfl⟩ := q
      rw [h1 a ha]
      obtain ⟨b, hb, e⟩ := TS a ha
      rw [e]; exact hS b hb
    · rw [h2 x hx fun a ha e => q ⟨a, ha, e⟩]; exact hx
  · by_cases q : ∃ a, a < m ∧ S a = x
    · obtain ⟨a, ha, rfl⟩ := q
      rw [h1 a ha] at e
      by_cases q2 : ∃ b, b < m ∧ S b = y
      · obtain ⟨b, hb, rfl⟩ := q2
        rw [h1 b hb] at e
        rw [iT a b ha hb e]
      · rw [h2 y hy fun a ha e => q2 ⟨a, ha, e⟩] at e
        obtain ⟨b, hb, e'⟩ := TS a ha
        exact absurd ⟨b, hb, by rw [← e', e]⟩ q2
    · rw [h2 x hx fun a ha e => q ⟨a, ha, e⟩] at e
      by_cases q2 : ∃ b, b < m ∧ S b = y
      · obtain ⟨b, hb, rfl⟩ := q2
        rw [h1 b hb] at e
        obtain ⟨c, hc, e'⟩ := TS b hb
        exact absurd ⟨c, hc, by rw [← e', e]⟩ q
      · rw [h2 y hy fun a ha e => q2 ⟨a, ha, e⟩] at e
        exact e
theorem dN_ints (L : List Nat) : L.map dN = (L.map fun x : Nat => (x : Int)).map D.int := by rw [List.map_map]; rfl
/-- sorted of numbers -/
theorem natSort (ks : List Nat) : ∃ L : List Nat, L.Perm ks ∧ L.Pairwise (· ≤ ·) ∧ (intSort (ks.map fun x : Nat => (x : Int))).map D.int = L.map dN := by
  have p := List.mergeSort_perm ks (fun a b => decide (a ≤ b))
  have u : (ks.mergeSort fun a b => decide (a ≤ b)).Pairwise (· ≤ ·) := by
    have := List.pairwise_mergeSort (le := fun a b : Nat => decide (a ≤ b)) (fun a b c h1 h2 => by simp at *; omega) (fun a b => by simp; omega) ks
    exact this.imp fun h => by simpa using h
  refine ⟨_, p, u, ?_⟩
  rw [dN_ints]
  congr 1
  refine (intSort_eq (p.map _) ?_).symm
  rw [List.pairwise_map]
  exact u.imp fun h => by omega
theorem gc_deep {h h' : AH} {i : Nat} {o : AO} (e : h'[i]? = some o) (f : o.flat = false) : gc h (.ok (.ref i) h') = .ok (.ref i) h' := by
  unfold gc
  dsimp only
  split
  · rw [if_neg (by unfold D.pure; exact Bool.false_ne_true), if_neg]
    rintro ⟨_, o', e', f'⟩
    rw [e] at e'
    cases e'
    rw [f] at f'
    cases f'
  · rfl
@[simp] theorem eChain_ (g g' : D → D → AH → ER) (a b c : EM) (env : AE) (h : AH) : eChain g g' a b c env h = (a env h).then fun d1 h1 => (b env h1).then fun d2 h2 => (g d1 d2 h2).then fun z h3 => onE z ((c env h3).then fun d3 h4 => g' d2 d3 h4) (.ok (.bl false) h3) := by
  unfold eChain onE
  rfl
@[simp] theorem oLt_tupN (u v : List Nat) (h : AH) : oLt (.tup (u.map dN)) (.tup (v.map dN)) h = .ok (.bl (HT.lexLt (u.map fun x : Nat => (x : Int)) (v.map fun x : Nat => (x : Int)))) h := by
  rw [dN_ints, dN_ints]
  simp only [oLt, intsOf_map]
theorem sqR {a b : SM} {e e1 : AE} {h h1 : AH} {R : D → AH → Prop} (ha : a e h = .nx e1 h1) (hb : ∃ d h', b e1 h1 = .rt d h' ∧ R d h') : ∃ d h', sSeq a b e h = .rt d h' ∧ R d h' := by
  obtain ⟨d, h', q, r⟩ := hb
  exact ⟨d, h', by rw [sSeq_, ha]; exact q, r⟩
theorem sqX {a b : SM} {e : AE} {h : AH} {R : D → AH → Prop} (ha : ∃ d h', a e h = .rt d h' ∧ R d h') : ∃ d h', sSeq a b e h = .rt d h' ∧ R d h' := by
  obtain ⟨d, h', q, r⟩ := ha
  exact ⟨d, h', by rw [sSeq_, q]; rfl, r⟩
end Rf

set_option maxHeartbeats 1000000
/-! What perms reach, orbits; the order of rows (first written for k09). -/
namespace Rf
open PySem L2
/-! ### what the perms reach -/
inductive Rch (ps : List (List Nat)) (s : Nat) : Nat → Prop
  | refl : Rch ps s s
  | step {x : Nat} {p : List Nat} : Rch ps s x → p ∈ ps → Rch ps s (p.getD x 0)
abbrev Ps (n : Nat) (ps : List (List Nat)) : Prop := ∀ p ∈ ps, IsP n p
theorem Rch.lt {n : Nat} {ps : List (List Nat)} (P : Ps n ps) {s x : Nat} (hs : s < n) (r : Rch ps s x) : x < n := by
  induction r with
  | refl => exact hs
  | step _ hp ih => exact (P _ hp).lt _ ih
theorem Rch.trans {ps : List (List Nat)} {s x y : Nat} (r : Rch ps s x) (q : Rch ps x y) : Rch ps s y := by
  induction q with
  | refl => exact r
  | step _ hp ih => exact .step ih hp
theorem Rch.mono {ps qs : List (List Nat)} {s x : Nat} (r : Rch ps s x) (h : ∀ p ∈ ps, p ∈ qs) : Rch qs s x := by
  induction r with
  | refl => exact .refl
  | step _ hp ih => exact .step ih (h _ hp)
open Classical in
theorem Rch.back {n : Nat} {p : List Nat} (P : IsP n p) {x : Nat} (hx : x < n) : Rch [p] (p.getD x 0) x := by
  apply Classical.byContradiction
  intro no
  have Pp : Ps n [p] := fun q hq => by rw [List.mem_singleton] at hq; subst hq; exact P
  have key : ∀ y, Rch [p] x y → Rch [p] (p.getD x 0) (p.getD y 0) := fun y r => by
    induction r with
    | refl => exact .refl
    | step _ hp ih => rw [List.mem_singleton] at hp; subst hp; exact .step ih (by simp)
  let S := (List.range n).filter fun y => decide (Rch [p] x y)
  have mS : ∀ y, y ∈ S ↔ y < n ∧ Rch [p] x y := fun y => by simp [S]
  let I := S.map fun y => p.getD y 0
  have ndS : S.Nodup := List.Pairwise.filter _ List.nodup_range
  have ndI : I.Nodup := by
    show (S.map fun y => p.getD y 0).Pairwise (· ≠ ·)
    rw [List.pairwise_map]
    exact ndS.imp_of_mem fun {a b} ha hb hab e => hab (P.inj a b ((mS a).mp ha).1 ((mS b).mp hb).1 e)
  have hxS : x ∈ S := (mS x).mpr ⟨hx, .refl⟩
  have sub : ∀ z ∈ I, z ∈ S.erase x := fun z hz => by
    obtain ⟨y, hy, rfl⟩ := List.mem_map.mp hz
    obtain ⟨yn, ry⟩ := (mS y).mp hy
    have r1 := key y ry
    have ne : p.getD y 0 ≠ x := fun e => no (by rw [e] at r1; exact r1)
    exact (List.mem_erase_of_ne ne).mpr ((mS _).mpr ⟨P.lt _ yn, .step ry (by simp)⟩)
  have l := sub_length ndI sub
  rw [List.length_erase_of_mem hxS, List.length_map] at l
  have := List.length_pos_of_mem hxS
  omega
theorem Rch.symm {n : Nat} {ps : List (List Nat)} (P : Ps n ps) {s x : Nat} (hs : s < n) (r : Rch ps s x) : Rch ps x s := by
  induction r with
  | refl => exact .refl
  | step r1 hp ih =>
    exact (Rch.mono (Rch.back (P _ hp) (r1.lt P hs)) fun q hq => by rw [List.mem_singleton] at hq; subst hq; exact hp).trans ih
/-! the orbit, in order -/
open Classical in
noncomputable def orb (ps : List (List Nat)) (n s : Nat) : List Nat := (List.range n).filter fun y => decide (Rch ps s y)
theorem mem_orb {ps : List (List Nat)} {n s y : Nat} : y ∈ orb ps n s ↔ y < n ∧ Rch ps s y := by simp [orb]
theorem orb_eq {ps : List (List Nat)} {n s : Nat} (P : Ps n ps) (hs : s < n) {t : Nat} (r : Rch ps s t) : orb ps n t = orb ps n s := by
  unfold orb
  apply List.filter_congr
  intro y hy
  rw [decide_eq_decide]
  exact ⟨fun q => r.trans q, fun q => (r.symm P hs).trans q⟩
/-- the first point of its orbit -/
def Hd (ps : List (List Nat)) (x : Nat) : Prop := ∀ z, z < x → ¬ Rch ps z x
open Classical in
noncomputable def heads (ps : List (List Nat)) (n k : Nat) : List Nat := (List.range k).filter fun x => decide (Hd ps x)
noncomputable def orbs (ps : List (List Nat)) (n k : Nat) : List (List Nat) := (heads ps n k).map (orb ps n)
open Classical in
theorem orbs_succ {ps : List (List Nat)} {n k : Nat} : orbs ps n (k + 1) = if Hd ps k then orbs ps n k ++ [orb ps n k] else orbs ps n k := by
  unfold orbs heads
  rw [List.range_succ, List.filter_append, List.map_append]
  by_cases h : Hd ps k
  · rw [if_pos h, List.filter_cons, if_pos (decide_eq_true h)]; rfl
  · rw [if_neg h, List.filter_cons, if_neg (by simpa using h)]; simp
theorem orbs_le {ps : List (List Nat)} {n k : Nat} : (orbs ps n k).length ≤ k := by
  unfold orbs heads
  rw [List.length_map]
  exact Nat.le_trans (List.length_filter_le _ _) (by simp)
open Classical in
/-- one orbit alone -/
theorem orbs_one {ps : List (List Nat)} {n : Nat} (P : Ps n ps) (hn : 1 ≤ n) : ((orbs ps n n).length = 1) ↔ (orb ps n 0).length = n := by
  obtain ⟨m, rfl⟩ : ∃ m, n = m + 1 := ⟨n - 1, by omega⟩
  have h0 : heads ps (m + 1) (m + 1) = 0 :: ((List.range m).map Nat.succ).filter fun x => decide (Hd ps x) := by
    unfold heads
    rw [List.range_succ_eq_map, List.filter_cons, if_pos (decide_eq_true (show Hd ps 0 from fun z hz => absurd hz (by omega)))]
  have e1 : (orbs ps (m + 1) (m + 1)).length = 1 ↔ ∀ x, 0 < x → x < m + 1 → ∃ z, z < x ∧ Rch ps z x := by
    unfold orbs
    rw [List.length_map, h0, List.length_cons]
    constructor
    · intro h x hx hxn
      have e : (((List.range m).map Nat.succ).filter fun x => decide (Hd ps x)) = [] := List.eq_nil_of_length_eq_zero (by omega)
      rw [List.filter_eq_nil_iff] at e
      have := e x (List.mem_map.mpr ⟨x - 1, by rw [List.mem_range]; omega, by omega⟩)
      rw [decide_eq_true_eq] at this
      apply Classical.byContradiction
      exact fun no => this fun z hz r => no ⟨z, hz, r⟩
    · intro h
      have e : (((List.range m).map Nat.succ).filter fun x => decide (Hd ps x)) = [] := by
        rw [List.filter_eq_nil_iff]
        intro x mx
        rw [decide_eq_true_eq]
        obtain ⟨y, hy, rfl⟩ := List.mem_map.mp mx
        rw [List.mem_range] at hy
        obtain ⟨z, hz, r⟩ := h (y + 1) (by omega) (by omega)
        exact fun q => q z hz r
      rw [e]; rfl
  have e2 : (orb ps (m + 1) 0).length = m + 1 ↔ ∀ x, x < m + 1 → Rch ps 0 x := by
    unfold orb
    constructor
    · intro h x hx
      have e := List.length_filter_eq_length_iff.mp (show _ = (List.range (m + 1)).length by rw [List.length_range]; exact h)
      simpa using e x (by simpa using hx)
    · intro h
      rw [List.filter_eq_self.mpr (fun x hx => by simpa using h x (by simpa using hx)), List.length_range]
  rw [e1, e2]
  constructor
  · intro h x
    induction x using Nat.strongRecOn with
    | _ x ih =>
      intro hx
      by_cases h0 : x = 0
      · subst h0; exact .refl
      · obtain ⟨z, hz, r⟩ := h x (by omega) hx
        exact (ih z hz (by omega)).trans r
  · intro h x h0 hx
    exact ⟨0, h0, h x hx⟩
/-! a line that holds all that is reached -/
theorem line_orb {ps : List (List Nat)} {n s : Nat} {L : List Nat} (hs : s ∈ L) (hn : ∀ x ∈ L, x < n) (cl : ∀ x ∈ L, ∀ p ∈ ps, p.getD x 0 ∈ L) (rc : ∀ x ∈ L, Rch ps s x) (nd : L.Nodup) : L.Perm (orb ps n s) := by
  refine (List.perm_ext_iff_of_nodup nd (by unfold orb; exact List.Pairwise.filter _ List.nodup_range)).mpr fun x => ?_
  rw [mem_orb]
  refine ⟨fun hx => ⟨hn x hx, rc x hx⟩, fun q => ?_⟩
  have r := q.2
  clear q
  induction r with
  | refl => exact hs
  | step _ hp ih => exact cl _ ih _ hp
/-! ### words, their order -/
def lx : List Nat → List Nat → Prop
  | x :: xs, y :: ys => x < y ∨ (x = y ∧ lx xs ys)
  | _, _ => False
theorem lx_irr : ∀ a : List Nat, ¬ lx a a
  | [], h => h.elim
  | x :: xs, h => by
    rcases h with h | ⟨_, h⟩
    · omega
    · exact lx_irr xs h
theorem lx_trans : ∀ {a b c : List Nat}, lx a b → lx b c → lx a c
  | x :: xs, y :: ys, z :: zs, h1, h2 => by
    rcases h1 with h1 | ⟨rfl, h1⟩
    · rcases h2 with h2 | ⟨rfl, h2⟩
      · exact .inl (by omega)
      · exact .inl h1
    · rcases h2 with h2 | ⟨rfl, h2⟩
      · exact .inl h2
      · exact .inr ⟨rfl, lx_trans h1 h2⟩
  | [], _, _, h, _ => h.elim
  | _ :: _, [], _, h, _ => h.elim
  | _ :: _, _ :: _, [], _, h => h.elim
theorem lx_tot : ∀ {a b : List Nat}, a.length = b.length → a = b ∨ lx a b ∨ lx b a
  | [], [], _ => .inl rfl
  | x :: xs, y :: ys, h => by
    rcases Nat.lt_trichotomy x y with l | rfl | l
    · exact .inr (.inl (.inl l))
    · rcases lx_tot (a := xs) (b := ys) (by simpa using h) with rfl | l | l
      · exact .inl rfl
      · exact .inr (.inl (.inr ⟨rfl, l⟩))
      · exact .inr (.inr (.inr ⟨rfl, l⟩))
    · exact .inr (.inr (.inl l))
  | [], _ :: _, h => by cases h
  | _ :: _, [], h => by cases h
theorem lx_snoc : ∀ {a b : List Nat} {k j : Nat}, a.length = b.length → (lx (a ++ [k]) (b ++ [j]) ↔ lx a b ∨ (a = b ∧ k < j))
  | [], [], k, j, _ => by simp [lx]
  | x :: xs, y :: ys, k, j, h => by
    have ih := lx_snoc (a := xs) (b := ys) (k := k) (j := j) (by simpa using h)
    simp only [List.cons_append, lx, ih, List.cons.injEq]
    constructor
    · rintro (q | ⟨rfl, q | ⟨rfl, q⟩⟩)
      · exact .inl (.inl q)
      · exact .inl (.inr ⟨rfl, q⟩)
      · exact .inr ⟨⟨rfl, rfl⟩, q⟩
    · rintro ((q | ⟨rfl, q⟩) | ⟨⟨rfl, rfl⟩, q⟩)
      · exact .inl q
      · exact .inr ⟨rfl, .inl q⟩
      · exact .inr ⟨rfl, .inr ⟨rfl, q⟩⟩
  | [], _ :: _, _, _, h => by cases h
  | _ :: _, [], _, _, h => by cases h
theorem lx_least {Q : List Nat → Prop} : ∀ (l : Nat), (∃ c, c.length = l ∧ Q c) → ∃ c, (c.length = l ∧ Q c) ∧ ∀ c', c'.length = l → Q c' → c = c' ∨ lx c c'
  | 0, ⟨c, hc, q⟩ => ⟨c, ⟨hc, q⟩, fun c' h' _ => .inl (by rw [List.eq_nil_of_length_eq_zero hc, List.eq_nil_of_length_eq_zero h'])⟩
  | l + 1, ⟨c, hc, q⟩ => by
    have ex : ∃ k, ∃ t : List Nat, t.length = l ∧ Q (k :: t) := by
      cases c with
      | nil => cases hc
      | cons k t => exact ⟨k, t, by simpa using hc, q⟩
    obtain ⟨k, pk, mk⟩ := min_ex ex
    obtain ⟨t, ⟨lt, qt⟩, mt⟩ := lx_least (Q := fun t => Q (k :: t)) l pk
    refine ⟨k :: t, ⟨by simp [lt], qt⟩, fun c' h' q' => ?_⟩
    cases c' with
    | nil => cases h'
    | cons k' t' =>
      have l' : t'.length = l := by simpa using h'
      have := mk k' ⟨t', l', q'⟩
      by_cases e : k = k'
      · subst e
        rcases mt t' l' q' with rfl | z
        · exact .inl rfl
        · exact .inr (.inr ⟨rfl, z⟩)
      · exact .inr (.inl (by omega))
end Rf

set_option maxHeartbeats 1000000
/-! Cycles of a perm. -/
namespace Rf
open PySem L2
abbrev ap (f : List Nat) (x : Nat) : Nat := f.getD x 0
/-- a path from x along f -/
structure Pa (f : List Nat) (x : Nat) (c : List Nat) : Prop where
  pos : 0 < c.length
  hd : c.getD 0 0 = x
  nx : ∀ k, k + 1 < c.length → f.getD (c.getD k 0) 0 = c.getD (k + 1) 0
  nd : c.Nodup
/-- a whole cycle -/
structure Cy (f : List Nat) (x : Nat) (c : List Nat) : Prop extends Pa f x c where
  cl : f.getD (c.getD (c.length - 1) 0) 0 = x
section
variable {n x : Nat} {f c : List Nat}
theorem one_P {f : List Nat} (P : IsP n f) : Ps n [f] := fun q hq => by rw [List.mem_singleton] at hq; subst hq; exact P
theorem rch_one {y : Nat} (r : Rch [f] x y) : Rch [f] x (f.getD y 0) := .step r (by simp)
theorem Pa.one : Pa f x [x] := ⟨by simp, rfl, fun k hk => absurd hk (by simp), by simp⟩
theorem Pa.rch (A : Pa f x c) : ∀ k, k < c.length → Rch [f] x (c.getD k 0)
  | 0, _ => by rw [A.hd]; exact .refl
  | k + 1, h => by rw [← A.nx k h]; exact rch_one (A.rch k (by omega))
theorem Pa.lt (P : IsP n f) (hx : x < n) (A : Pa f x c) : ∀ y ∈ c, y < n := fun y hy => by
  obtain ⟨k, hk, rfl⟩ := mem_getD (d := 0) hy
  exact (A.rch k hk).lt (one_P P) hx
theorem Pa.len (P : IsP n f) (hx : x < n) (A : Pa f x c) : c.length ≤ n := by
  have := sub_length A.nd (l2 := List.range n) fun y hy => List.mem_range.mpr (A.lt P hx y hy)
  simpa using this
theorem Pa.push (P : IsP n f) (hx : x < n) (A : Pa f x c) (h : f.getD (c.getD (c.length - 1) 0) 0 ≠ x) : Pa f x (c ++ [f.getD (c.getD (c.length - 1) 0) 0]) := by
  have p := A.pos
  refine ⟨by simp, by rw [getD_app, if_neg (by omega)]; exact A.hd, fun k hk => ?_, ?_⟩
  · rw [List.length_append, List.length_singleton] at hk
    rw [getD_app, if_neg (by omega), getD_app]
    by_cases e : k + 1 = c.length
    · rw [if_pos e]; congr 2; omega
    · rw [if_neg e]; exact A.nx k (by omega)
  · refine List.nodup_append.mpr ⟨A.nd, by simp, fun a ha b hb => ?_⟩
    rw [List.mem_singleton] at hb
    subst hb
    rintro rfl
    obtain ⟨k, hk, e⟩ := mem_getD (d := 0) ha
    have ll := A.lt P hx _ (getD_mem (d := 0) (show c.length - 1 < c.length by omega))
    cases k with
    | zero => rw [A.hd] at e; exact h e.symm
    | succ k =>
      rw [← A.nx k hk] at e
      have lk := A.lt P hx _ (getD_mem (d := 0) (show k < c.length by omega))
      have := nodup_getD A.nd (by omega) (by omega) (P.inj _ _ lk ll e)
      omega
theorem Cy.ex (P : IsP n f) (hx : x < n) : ∃ c, Cy f x c := by
  have key : ∀ m c, Pa f x c → n - c.length = m → ∃ c, Cy f x c := by
    intro m
    induction m with
    | zero =>
      intro c A e
      have l := A.len P hx
      by_cases q : f.getD (c.getD (c.length - 1) 0) 0 = x
      · exact ⟨c, A, q⟩
      · have := (A.push P hx q).len P hx
        simp at this; omega
    | succ m ih =>
      intro c A e
      by_cases q : f.getD (c.getD (c.length - 1) 0) 0 = x
      · exact ⟨c, A, q⟩
      · exact ih _ (A.push P hx q) (by simp; omega)
  exact key _ _ Pa.one rfl
theorem Cy.nxt (C : Cy f x c) {k : Nat} (hk : k < c.length) : f.getD (c.getD k 0) 0 = c.getD (if k + 1 < c.length then k + 1 else 0) 0 := by
  by_cases q : k + 1 < c.length
  · rw [if_pos q]; exact C.nx k q
  · rw [if_neg q, C.hd, ← C.cl]; congr 2; omega
theorem Cy.mem (C : Cy f x c) {y : Nat} : y ∈ c ↔ Rch [f] x y := by
  constructor
  · intro hy
    obtain ⟨k, hk, rfl⟩ := mem_getD (d := 0) hy
    exact C.toPa.rch k hk
  · intro r
    induction r with
    | refl => rw [← C.hd]; exact getD_mem C.pos
    | step _ hp ih =>
      rw [List.mem_singleton] at hp
      subst hp
      obtain ⟨k, hk, e⟩ := mem_getD (d := 0) ih
      rw [← e, C.nxt hk]
      refine getD_mem ?_
      split
      · assumption
      · exact C.pos
theorem Cy.perm (P : IsP n f) (hx : x < n) (C : Cy f x c) : c.Perm (orb [f] n x) := by
  refine (List.perm_ext_iff_of_nodup C.nd (by unfold orb; exact List.Pairwise.filter _ List.nodup_range)).mpr fun y => ?_
  rw [mem_orb, C.mem]
  exact ⟨fun r => ⟨r.lt (one_P P) hx, r⟩, fun q => q.2⟩
noncomputable def len (f : List Nat) (n x : Nat) : Nat := (orb [f] n x).length
theorem Cy.len (P : IsP n f) (hx : x < n) (C : Cy f x c) : c.length = Rf.len f n x := (C.perm P hx).length_eq
theorem len_pos (P : IsP n f) (hx : x < n) : 1 ≤ len f n x := by
  obtain ⟨c, C⟩ := Cy.ex P hx
  rw [← C.len P hx]; exact C.pos
theorem len_le : len f n x ≤ n := by unfold len orb; exact Nat.le_trans (List.length_filter_le _ _) (by simp)
theorem len_eq (P : IsP n f) (hx : x < n) {y : Nat} (r : Rch [f] x y) : len f n y = len f n x := by unfold len; rw [orb_eq (one_P P) hx r]
theorem Cy.uniq (P : IsP n f) (hx : x < n) {d : List Nat} (C : Cy f x c) (E : Cy f x d) : c = d := by
  have l : c.length = d.length := by rw [C.len P hx, E.len P hx]
  refine ext_getD l fun k => ?_
  induction k with
  | zero => intro _; rw [C.hd, E.hd]
  | succ k ih => intro hk; rw [← C.nx k hk, ← E.nx k (by omega), ih (by omega)]
open Classical in
noncomputable def cyc (f : List Nat) (x : Nat) : List Nat := if h : ∃ c, Cy f x c then Classical.choose h else []
theorem cyc_cy (P : IsP n f) (hx : x < n) : Cy f x (cyc f x) := by
  unfold cyc
  rw [dif_pos (Cy.ex P hx)]
  exact Classical.choose_spec (Cy.ex P hx)
theorem cyc_eq (P : IsP n f) (hx : x < n) (C : Cy f x c) : cyc f x = c := (cyc_cy P hx).uniq P hx C
/-! how many points, how many cycles of a length -/
noncomputable def cntL (f : List Nat) (n s : Nat) : Nat := ((List.range n).filter fun x => len f n x == s).length
noncomputable def lens (f : List Nat) (n : Nat) : List Nat := (heads [f] n n).map (len f n)
theorem mem_heads {ps : List (List Nat)} {k : Nat} : x ∈ heads ps n k ↔ x < k ∧ Hd ps x := by
  unfold heads
  rw [List.mem_filter, List.mem_range]
  exact and_congr_right fun _ => @decide_eq_true_iff _ (Classical.propDecidable _)
theorem heads_nodup {ps : List (List Nat)} {k : Nat} : (heads ps n k).Nodup := by unfold heads; exact List.Pairwise.filter _ List.nodup_range
/-- each point lies in the orbit of one head -/
theorem head_ex {ps : List (List Nat)} (P : Ps n ps) (hx : x < n) : ∃ z, z ≤ x ∧ Hd ps z ∧ Rch ps z x := by
  obtain ⟨z, ⟨hz, r⟩, m⟩ := min_ex (P := fun z => z < n ∧ Rch ps z x) ⟨x, hx, .refl⟩
  refine ⟨z, m x ⟨hx, .refl⟩, fun y hy r2 => ?_, r⟩
  have := m y ⟨by omega, r2.trans r⟩
  omega
theorem flat_perm {ps : List (List Nat)} (P : Ps n ps) : ((heads ps n n).flatMap (orb ps n)).Perm (List.range n) := by
  refine (List.perm_ext_iff_of_nodup ?_ List.nodup_range).mpr fun y => ?_
  · show List.Pairwise _ _
    rw [List.pairwise_flatMap]
    refine ⟨fun a _ => by unfold orb; exact List.Pairwise.filter _ List.nodup_range, ?_⟩
    refine (heads_nodup (ps := ps) (n := n) (k := n)).imp_of_mem fun {a b} ha hb ne u hu v hv e => ?_
    subst e
    obtain ⟨an, ha⟩ := mem_heads.mp ha
    obtain ⟨bn, hb⟩ := mem_heads.mp hb
    have r1 := (mem_orb.mp hu).2
    have r2 := (mem_orb.mp hv).2
    have r3 := r1.trans (r2.symm P bn)
    have r4 := r2.trans (r1.symm P an)
    rcases Nat.lt_trichotomy a b with q | q | q
    · exact hb a q r3
    · exact ne q
    · exact ha b q r4
  · rw [List.mem_flatMap, List.mem_range]
    constructor
    · rintro ⟨a, _, h⟩; exact (mem_orb.mp h).1
    · intro hy
      obtain ⟨z, hz, h, r⟩ := head_ex P hy
      exact ⟨z, mem_heads.mpr ⟨by omega, h⟩, mem_orb.mpr ⟨hy, r⟩⟩
theorem filter_flat (P : IsP n f) (s : Nat) : ∀ hs : List Nat, (∀ x ∈ hs, x < n) → ((hs.flatMap (orb [f] n)).filter fun x => len f n x == s).length = s * ((hs.map (len f n)).filter (· == s)).length
  | [], _ => by simp
  | x :: hs, h => by
    have hx := h x List.mem_cons_self
    rw [List.flatMap_cons, List.filter_append, List.length_append, filter_flat P s hs fun y hy => h y (List.mem_cons_of_mem _ hy), List.map_cons, List.filter_cons]
    have all : ∀ y ∈ orb [f] n x, len f n y = len f n x := fun y hy => len_eq P hx (mem_orb.mp hy).2
    by_cases e : len f n x = s
    · rw [List.filter_eq_self.mpr fun y hy => by rw [all y hy, e]; simp, if_pos (by simp [e]), List.length_cons, Nat.mul_add, Nat.mul_one]
      have : (orb [f] n x).length = s := e
      omega
    · rw [List.filter_eq_nil_iff.mpr fun y hy => by rw [all y hy]; simpa using e, if_neg (by simpa using e)]
      simp
theorem cnt_hd (P : IsP n f) (s : Nat) : cntL f n s = s * ((lens f n).filter (· == s)).length := by
  unfold cntL lens
  rw [← filter_flat P s _ fun x hx => (mem_heads.mp hx).1]
  exact ((flat_perm (one_P P)).filter _).length_eq.symm
theorem lens_pos (P : IsP n f) : ∀ s ∈ lens f n, 1 ≤ s := fun s hs => by
  obtain ⟨x, hx, rfl⟩ := List.mem_map.mp hs
  exact len_pos P (mem_heads.mp hx).1
theorem lens_iff {g : List Nat} (P : IsP n f) (Q : IsP n g) : (lens f n).Perm (lens g n) ↔ ∀ s, cntL f n s = cntL g n s := by
  constructor
  · intro p s
    rw [cnt_hd P, cnt_hd Q, (p.filter _).length_eq]
  · intro h
    rw [List.perm_iff_count]
    intro s
    rw [show List.count s (lens f n) = ((lens f n).filter (· == s)).length from List.countP_eq_length_filter, show List.count s (lens g n) = ((lens g n).filter (· == s)).length from List.countP_eq_length_filter]
    by_cases s0 : s = 0
    · have z : ∀ l : List Nat, (∀ s ∈ l, 1 ≤ s) → l.filter (· == s) = [] := fun l hl => List.filter_eq_nil_iff.mpr fun x hx => by
        have := hl x hx
        simp; omega
      rw [z _ (lens_pos P), z _ (lens_pos Q)]
    · have := h s
      rw [cnt_hd P, cnt_hd Q] at this
      exact Nat.eq_of_mul_eq_mul_left (by omega) this
end
end Rf

set_option maxHeartbeats 1000000
/-! More to reckon with: the last item, rows compared, index, pop(i), extend. -/
namespace Rf
open PySem L2
theorem ixD_last {ds : List D} (hp : 0 < ds.length) (h : AH) : ixD ds (-1) h = .ok (ds.getD (ds.length - 1) .non) h := by
  have e : L2.atI ds (-1) = some (ds.getD (ds.length - 1) .non) := by
    unfold L2.atI L2.ixN
    rw [if_neg (by omega), if_pos (by omega)]
    have : ((-1 : Int) + (ds.length : Int)).toNat = ds.length - 1 := by omega
    rw [Option.bind_some, this]
    exact getD_some (by omega)
  simp [ixD, e]
theorem ixD_last_N {xs : List Nat} (hp : 0 < xs.length) (h : AH) : ixD (xs.map dN) (-1) h = .ok (dN (xs.getD (xs.length - 1) 0)) h := by
  rw [ixD_last (by simpa using hp), List.length_map, map_getD (d := 0) (by omega)]
theorem mapM_toP' {us : List Nat} {h : AH} {k : Nat} : (us.map dN).mapM (D.toP h (k + 1)) = some (us.map fun u : Nat => PyData.int (u : Int)) := mapM_toP
theorem toP_tupN {us : List Nat} {h : AH} : (D.tup (us.map dN)).toP h 20 = some (.tuple (us.map fun u : Nat => PyData.int (u : Int))) := by
  unfold D.toP
  show ((us.map dN).mapM (D.toP h 19)).map PyData.tuple = _
  rw [mapM_toP]; rfl
theorem oEq_tupN {us vs : List Nat} {h : AH} : oEq (.tup (us.map dN)) (.tup (vs.map dN)) h = .ok (.bl (decide (us = vs))) h := by
  unfold oEq
  rw [toP_tupN, toP_tupN]
  simp only [PyData.eqv, eqvAll_N]
theorem oNe_tupN {us vs : List Nat} {h : AH} : oNe (.tup (us.map dN)) (.tup (vs.map dN)) h = .ok (.bl (!decide (us = vs))) h := by
  unfold oNe
  rw [toP_tupN, toP_tupN]
  simp only [PyData.eqv, eqvAll_N]
theorem oNe_L {us vs : List Nat} {h : AH} {r q : Nat} (hr : h[r]? = some (.lst (us.map dN))) (hq : h[q]? = some (.lst (vs.map dN))) : oNe (.ref r) (.ref q) h = .ok (.bl (!decide (us = vs))) h := by
  unfold oNe
  rw [toP_list hr, toP_list hq]
  simp only [PyData.eqv, eqvAll_N]
theorem firstAt_N {v : Nat} : ∀ {us : List Nat} {j : Nat}, j < us.length → us.getD j 0 = v → (∀ k, k < j → us.getD k 0 ≠ v) → firstAt (.int (v : Int)) (us.map fun u : Nat => PyData.int (u : Int)) = some j
  | [], j, h, _, _ => absurd h (by simp)
  | u :: us, 0, _, e, _ => by
    have e : u = v := e
    subst e
    rw [List.map_cons, firstAt, eqv_int]; simp
  | u :: us, j + 1, h, e, n => by
    have n0 : u ≠ v := n 0 (by omega)
    have ih := firstAt_N (v := v) (us := us) (j := j) (by simpa using h) e fun k hk => n (k + 1) (by omega)
    rw [List.map_cons, firstAt, eqv_int, ih]
    have : ((u : Int) == (v : Int)) = false := by rw [beq_nat]; simpa using n0
    rw [this]; rfl
theorem mIndex_N {us : List Nat} {h : AH} {r j v : Nat} (hr : h[r]? = some (.lst (us.map dN))) (hj : j < us.length) (e : us.getD j 0 = v) (n : ∀ k, k < j → us.getD k 0 ≠ v) : mIndex (.ref r) [.int (v : Int)] h = .ok (dN j) h := by
  unfold mIndex
  dsimp only
  rw [toP_list hr, show (D.int (v : Int)).toP h 20 = some (.int v) from rfl]
  dsimp only
  rw [firstAt_N hj e n]
theorem eraseIdx_map' {α β : Type} {f : α → β} : ∀ {l : List α} {i : Nat}, (l.map f).eraseIdx i = (l.eraseIdx i).map f
  | [], _ => rfl
  | a :: l, 0 => rfl
  | a :: l, i + 1 => by rw [List.map_cons, List.eraseIdx_cons_succ, List.eraseIdx_cons_succ, eraseIdx_map', List.map_cons]
theorem mPopAt_N {us : List Nat} {h : AH} {r j : Nat} (hr : h[r]? = some (.lst (us.map dN))) (hj : j < us.length) (hl : us.length ≤ 1000000) : mPopAt (.ref r) [.int (j : Int)] h = .ok (dN (us.getD j 0)) (h.set r (.lst ((us.eraseIdx j).map dN))) := by
  unfold mPopAt
  dsimp only
  rw [hr]
  dsimp only
  rw [ixN_nat (by simpa using hj)]
  dsimp only
  rw [List.getElem?_map, getD_some (a := 0) hj]
  dsimp only [Option.map]
  rw [if_pos (show Fits (us.map dN).length from fits (by simp; omega)), eraseIdx_map']
theorem mExtend_L {xs ys : List D} {h : AH} {r q : Nat} (hr : h[r]? = some (.lst xs)) (hq : h[q]? = some (.lst ys)) (hl : xs.length + ys.length ≤ 1000000) : mExtend (.ref r) [.ref q] h = .ok .non (h.set r (.lst (xs ++ ys))) := by
  unfold mExtend
  dsimp only
  rw [hr, hq]
  dsimp only
  rw [if_pos (fits (by omega))]
def dC (c : List Nat) : D := .tup (c.map dN)
/-! ### the points known -/
def kn (n : Nat) (L : List Nat) : List D := (List.range n).map fun x => D.bl (decide (x ∈ L))
theorem kn_nil (n : Nat) : List.replicate n (D.bl false) = kn n [] := by
  unfold kn
  simp [List.map_const']
theorem kn_len {n : Nat} {L : List Nat} : (kn n L).length = n := by simp [kn]
theorem kn_at {n x : Nat} {L : List Nat} (hx : x < n) (h : AH) : ixD (kn n L) (x : Int) h = .ok (.bl (decide (x ∈ L))) h := by
  unfold kn
  exact ixD_map (f := fun x => D.bl (decide (x ∈ L))) (List.getElem?_range hx)
theorem kn_set {n x : Nat} {L : List Nat} (hx : x < n) : (kn n L).set x (.bl true) = kn n (L ++ [x]) := by
  apply List.ext_getElem?
  intro j
  by_cases hj : j < n
  · unfold kn
    by_cases e : x = j
    · subst e
      rw [List.getElem?_set_self (by simpa using hx), List.getElem?_map, List.getElem?_range hx]
      simp
    · rw [List.getElem?_set_ne e, List.getElem?_map, List.getElem?_map, List.getElem?_range hj]
      have : ¬ j = x := fun h => e h.symm
      simp [this]
  · rw [List.getElem?_eq_none (by rw [List.length_set, kn_len]; omega), List.getElem?_eq_none (by rw [kn_len]; omega)]
theorem kn_put {n x : Nat} {L : List Nat} {r : Nat} {h : AH} (hx : x < n) : putO (some (.lst (kn n L))) r (x : Int) (.bl true) h = some (h.set r (.lst (kn n (L ++ [x])))) := by
  rw [putO_nat (by rw [kn_len]; exact hx), kn_set hx]
open Classical in
/-- the points known behind the first k -/
noncomputable def knO (ps : List (List Nat)) (n k : Nat) : List Nat := (List.range n).filter fun y => decide (∃ z, z < k ∧ Rch ps z y)
theorem kn_ext {n : Nat} {L M : List Nat} (h : ∀ x, x < n → (x ∈ L ↔ x ∈ M)) : kn n L = kn n M := by
  unfold kn
  apply List.map_congr_left
  intro x hx
  rw [List.mem_range] at hx
  simp [h x hx]
theorem mem_knO {ps : List (List Nat)} {n k x : Nat} : x ∈ knO ps n k ↔ x < n ∧ ∃ z, z < k ∧ Rch ps z x := by simp [knO]
theorem notIn2_tup {us : List Nat} {h : AH} {k : Nat} : oNotIn2 (.int (k : Int)) (.tup (us.map dN)) h = .ok (.bl (!us.contains k)) h := by
  unfold oNotIn2
  rw [toP_tupN, show (D.int (k : Int)).toP h 20 = some (.int k) from rfl]
  simp only [any_N]
theorem in2_tup {us : List Nat} {h : AH} {k : Nat} : oIn2 (.int (k : Int)) (.tup (us.map dN)) h = .ok (.bl (us.contains k)) h := by
  unfold oIn2
  rw [toP_tupN, show (D.int (k : Int)).toP h 20 = some (.int k) from rfl]
  simp only [any_N]
theorem notIn2_L {us : List Nat} {h : AH} {r k : Nat} (hr : h[r]? = some (.lst (us.map dN))) : oNotIn2 (.int (k : Int)) (.ref r) h = .ok (.bl (!us.contains k)) h := by
  unfold oNotIn2
  rw [toP_list hr, show (D.int (k : Int)).toP h 20 = some (.int k) from rfl]
  simp only [any_N]
end Rf

set_option maxHeartbeats 1000000
/-! reckoning for RY: enumerate, stars, max -/
namespace Rf
open PySem L2
theorem forN_liveE {g : GM} {b : SM} {r : Nat} {ds : List D} {m : Nat} (P : Nat → AE → AH → Prop) (hP : ∀ i e h, P i e h → h[r]? = some (.lst ds)) : ∀ (k i : Nat) (e : AE) (h : AH), i + k = ds.length → P i e h →
    (∀ (i : Nat) (d : D) (e : AE) (h : AH), ds[i]? = some d → P i e h → ∃ e' h', (onlyNx (g (.tup [.int (i : Nat), d]) e h)).then b = .nx e' h' ∧ P (i + 1) e' h') → ∃ e' h', forN (liveE r m) g b (k + 1) i e h = .nx e' h' ∧ P ds.length e' h'
  | 0, i, e, h, hk, p, st => by
    have e0 := hP i e h p
    have ei : i = ds.length := by omega
    refine ⟨e, h, ?_, by rw [← ei]; exact p⟩
    unfold forN
    simp [liveE, e0, ei, numD_at]
  | k + 1, i, e, h, hk, p, st => by
    have e0 := hP i e h p
    have hi : i < ds.length := by omega
    obtain ⟨e1, h1, q, p1⟩ := st i ds[i] e h (List.getElem?_eq_getElem hi) p
    obtain ⟨e2, h2, q2, p2⟩ := forN_liveE P hP k (i + 1) e1 h1 (by omega) p1 st
    refine ⟨e2, h2, ?_, p2⟩
    have nx : (liveE r m).nxt i h = some (some (.tup [.int (i : Nat), ds[i]])) := by simp [liveE, e0, numD_at, hi]
    unfold forN
    rw [nx]
    dsimp only
    rw [q]
    exact q2
theorem sFor_enumL {m : EM} {g : GM} {b : SM} {e : AE} {h h1 : AH} {r : Nat} {ds : List D} (P : Nat → AE → AH → Prop) (hm : m e h = .ok (.ref r) h1) (hP : ∀ i e h, P i e h → h[r]? = some (.lst ds)) (p : P 0 e h1)
    (st : ∀ (i : Nat) (d : D) (e : AE) (h : AH), ds[i]? = some d → P i e h → ∃ e' h', (onlyNx (g (.tup [.int (i : Nat), d]) e h)).then b = .nx e' h' ∧ P (i + 1) e' h') : ∃ e' h', sFor (iEnum2 m) g b e h = .nx e' h' ∧ P ds.length e' h' := by
  have hr := hP _ _ _ p
  have : iEnum2 m e h = .ok (liveE r ds.length) h1 := by simp [iEnum2, hm, hr]
  unfold sFor
  rw [this]
  exact forN_liveE P hP ds.length 0 e h1 (Nat.zero_add _) p st
theorem iEnum2_tup {m : EM} {e : AE} {h h1 : AH} {ds : List D} (hm : m e h = .ok (.tup ds) h1) : iEnum2 m e h = .ok (stat (numD ds)) h1 := by simp [iEnum2, hm]
theorem sFor_enumT {m : EM} {g : GM} {b : SM} {e : AE} {h h1 : AH} {ds : List D} (P : Nat → AE → AH → Prop) (hm : m e h = .ok (.tup ds) h1) (p : P 0 e h1)
    (st : ∀ (i : Nat) (d : D) (e : AE) (h : AH), ds[i]? = some d → P i e h → ∃ e' h', (onlyNx (g (.tup [.int (i : Nat), d]) e h)).then b = .nx e' h' ∧ P (i + 1) e' h') : ∃ e' h', sFor (iEnum2 m) g b e h = .nx e' h' ∧ P ds.length e' h' := by
  rw [sFor_stat (iEnum2_tup hm)]
  have := loop_inv (g := g) (b := b) P (numD ds) 0 e h1 p fun i d e h hd hp => by
    rw [numD_at] at hd
    obtain ⟨d0, h0, rfl⟩ := Option.map_eq_some_iff.mp hd
    rw [Nat.zero_add] at hp
    obtain ⟨e', h', q, p'⟩ := st i d0 e h h0 hp
    exact ⟨e', h', q, by rwa [Nat.zero_add]⟩
  have ln : (numD ds).length = ds.length := by simp [numD]
  simpa [ln] using this
theorem sFor_enumT_ret {m : EM} {g : GM} {b : SM} {e : AE} {h h1 : AH} {ds : List D} (P : Nat → AE → AH → Prop) (R : D → AH → Prop) (hm : m e h = .ok (.tup ds) h1) (p : P 0 e h1)
    (st : ∀ (i : Nat) (d : D) (e : AE) (h : AH), ds[i]? = some d → P i e h → (∃ e' h', (onlyNx (g (.tup [.int (i : Nat), d]) e h)).then b = .nx e' h' ∧ P (i + 1) e' h') ∨ ∃ d' h', (onlyNx (g (.tup [.int (i : Nat), d]) e h)).then b = .rt d' h' ∧ R d' h') :
    (∃ e' h', sFor (iEnum2 m) g b e h = .nx e' h' ∧ P ds.length e' h') ∨ ∃ d' h', sFor (iEnum2 m) g b e h = .rt d' h' ∧ R d' h' := by
  rw [sFor_stat (iEnum2_tup hm)]
  have := loop_ret (g := g) (b := b) P R (numD ds) 0 e h1 p fun i d e h hd hp => by
    rw [numD_at] at hd
    obtain ⟨d0, h0, rfl⟩ := Option.map_eq_some_iff.mp hd
    rw [Nat.zero_add] at hp
    rcases st i d0 e h h0 hp with ⟨e', h', q, p'⟩ | z
    · exact .inl ⟨e', h', q, by rwa [Nat.zero_add]⟩
    · exact .inr z
  have ln : (numD ds).length = ds.length := by simp [numD]
  simpa [ln] using this
def LR.app (xs : List D) : LR → LR
  | .ok ds h => .ok (xs ++ ds) h
  | .exc c fs h => .exc c fs h
  | .stuck => .stuck
@[simp] theorem app_ok (xs ds : List D) (h : AH) : LR.app xs (.ok ds h) = .ok (xs ++ ds) h := rfl
theorem lStar_ref {a : EM} {r : LM} {env : AE} {h h1 : AH} {i : Nat} {xs : List D} (e : a env h = .ok (.ref i) h1) (hr : h1[i]? = some (.lst xs)) : lStar a r env h = (r env h1).app xs := by
  unfold lStar
  rw [e]
  simp only [seqOf, hr]
  cases r env h1 <;> rfl
theorem cMaxL_ref {r : Nat} {ns : List Int} {h : AH} (e : h[r]? = some (.lst (ns.map D.int))) (l : 0 < ns.length) : cMaxL [.ref r] h = .ok (.int (maxI ns)) h := by
  simp only [cMaxL, listOf, e, intsOf_map]
  rw [if_pos l]
/-- a comprehension over a row that stands still, any target, no test -/
theorem lc_gen {g : GM} {te : EM} {e0 : AE} {h : AH} {ds : List D} (f : Nat → D) : ∀ (m i : Nat) (acc : List D), i + m = ds.length → acc.length + m ≤ sizeLine →
    (∀ i d, ds[i]? = some d → ∃ e1, g d e0 h = .nx e1 h ∧ te e1 h = .ok (f i) h) → lcN (stat ds) g (eC (.bl true)) te e0 (m + 1) i acc h = .inr (acc ++ (List.range m).map fun t => f (i + t), h)
  | 0, i, acc, hi, _, _ => by
    have hi : ds[i]? = none := List.getElem?_eq_none (by omega)
    unfold lcN
    simp [stat, hi]
  | m + 1, i, acc, hi, hl, st => by
    have hd : ds[i]? = some ds[i] := List.getElem?_eq_getElem (by omega)
    obtain ⟨e1, q1, q2⟩ := st i _ hd
    have ih := lc_gen (g := g) (te := te) (e0 := e0) (h := h) (ds := ds) f m (i + 1) (acc ++ [f i]) (by omega) (by simp; omega) st
    have nx : (stat ds).nxt i h = some (some ds[i]) := by simp [stat, hd]
    unfold lcN
    rw [nx]
    simp only [q1, eC_, q2]
    rw [if_pos (show FitsL acc.length from (by omega : acc.length < sizeLine)), ih]
    have : (List.range (m + 1)).map (fun t => f (i + t)) = f i :: (List.range m).map (fun t => f (i + 1 + t)) := by
      rw [List.range_succ_eq_map]
      simp only [List.map_cons, List.map_map, Nat.add_zero]
      congr 1
      refine List.map_congr_left fun t _ => ?_
      show f (i + (t + 1)) = _
      congr 1; omega
    rw [this, List.append_assoc]; rfl
theorem eLc_gen {mi : IM} {g : GM} {te : EM} {vs : List Nat} {e : AE} {h h1 : AH} {ds : List D} (f : Nat → D) (hm : mi e h = .ok (stat ds) h1) (hl : ds.length ≤ sizeLine)
    (st : ∀ i d, ds[i]? = some d → ∃ e1, g d (wipeE e vs) h1 = .nx e1 h1 ∧ te e1 h1 = .ok (f i) h1) : eLc mi g (eC (.bl true)) te vs e h = .ok (.ref h1.length) (h1 ++ [.lst ((List.range ds.length).map f)]) := by
  unfold eLc
  rw [hm]
  have := lc_gen (g := g) (te := te) (e0 := wipeE e vs) (h := h1) (ds := ds) f ds.length 0 [] (Nat.zero_add _) (by simpa using hl) st
  have hn : (stat ds).n = ds.length := rfl
  simp only [hn, this]
  simp
theorem numD_len {ds : List D} : (numD ds).length = ds.length := by simp [numD]
end Rf

set_option maxHeartbeats 1000000
/-! reckoning: texts as code lists, raise, fields -/
namespace Rf
open PySem L2 SX
def cutL {α : Type} (ds : List α) (lo hi : Option Int) : List α := (ds.drop (HT.sIx ds.length 0 lo)).take (HT.sIx ds.length ds.length hi - HT.sIx ds.length 0 lo)
theorem cutL_to {α : Type} (es : List α) (k : Nat) : cutL es none (some (k : Int)) = es.take k := by
  unfold cutL
  rw [HT.sIx_none, HT.sIx_nat, List.drop_zero, Nat.sub_zero]
  rw [List.take_eq_take_iff]; omega
theorem cutL_from {α : Type} (es : List α) (k : Nat) : cutL es (some (k : Int)) none = es.drop k := by
  unfold cutL
  rw [HT.sIx_none, HT.sIx_nat]
  by_cases hk : k ≤ es.length
  · rw [Nat.min_eq_left hk, List.take_of_length_le (by simp)]
  · rw [Nat.min_eq_right (by omega), List.drop_of_length_le (Nat.le_refl _), List.drop_of_length_le (by omega)]; simp
theorem cutL_but {α : Type} (es : List α) : cutL es none (some (-1)) = es.dropLast := by
  unfold cutL
  have : HT.sIx es.length es.length (some (-1)) = es.length - 1 := by
    have e : HT.sIx es.length es.length (some (-1)) = ((-1 : Int) + (es.length : Int)).toNat := rfl
    rw [e]; omega
  rw [HT.sIx_none, this, List.drop_zero, Nat.sub_zero, List.dropLast_eq_take]
theorem cutD_L (ds : List D) (lo hi : Option Int) : cutD ds lo hi = cutL ds lo hi := rfl
theorem cutL_map {α β : Type} (f : α → β) (ds : List α) (lo hi : Option Int) : cutL (ds.map f) lo hi = (cutL ds lo hi).map f := by
  unfold cutL
  rw [List.length_map, List.map_take, List.map_drop]
theorem cutS_S (a : List Nat) (lo hi : Option Int) : cutS (S a) lo hi = S (cutL a lo hi) := by
  unfold cutS cutL
  rw [S_len]
theorem signs_S (a : List Nat) : signs (S a) = a.map fun c => .str (S [c]) := rfl
@[simp] theorem oAdd_S (a b : List Nat) (h : AH) : oAdd (.str (S a)) (.str (S b)) h = if Fits (a.length + b.length) then .ok (.str (S (a ++ b))) h else .stuck := by
  show (if Fits ((S a).length + (S b).length) then ER.ok (.str (S a ++ S b)) h else .stuck) = _
  rw [S_len, S_len, S_cat]
@[simp] theorem oSl_S (a : List Nat) (lo hi : Option Int) (h : AH) : oSl (.str (S a)) lo hi h = if Fits a.length then .ok (.str (S (cutL a lo hi))) h else .stuck := by
  show (if Fits (S a).length then ER.ok (.str (cutS (S a) lo hi)) h else .stuck) = _
  rw [S_len, cutS_S]
@[simp] theorem cLen_S (a : List Nat) (h : AH) : cLen [.str (S a)] h = if Fits a.length then .ok (.int a.length) h else .stuck := by
  show (if Fits (S a).length then ER.ok (.int (S a).length) h else .stuck) = _
  rw [S_len]
theorem oIx_S {a : List Nat} {i : Nat} {h : AH} (hi : i < a.length) (hl : a.length ≤ 1000000) : oIx (.str (S a)) (.int (i : Int)) h = .ok (.str (S [a.getD i 0])) h := by
  unfold oIx
  dsimp only
  rw [S_len, if_pos (fits (by omega)), atI_nat (getD_some (a := 0) hi)]
/-- codes that a text may have -/
def okS (a : List Nat) : Prop := ∀ c ∈ a, c < 0x110000
theorem okS_ok {a : List Nat} (h : okS a) : PyData.strOk (S a) = true := by
  unfold PyData.strOk
  rw [Array.all_eq_true_iff_forall_mem]
  intro c hc
  exact decide_eq_true (h c (by simpa using hc))
theorem toP_S {a : List Nat} (h : okS a) (hh : AH) (k : Nat) : (D.str (S a)).toP hh k = some (.str (S a)) := by
  cases k <;> exact if_pos (okS_ok h)
theorem eqv_S (a b : List Nat) : PyData.eqv (.str (S a)) (.str (S b)) = decide (a = b) := by
  simp only [PyData.eqv]
  exact S_beq_eq
theorem oEq_SS {a b : List Nat} (ha : okS a) (hb : okS b) (h : AH) : oEq (.str (S a)) (.str (S b)) h = .ok (.bl (decide (a = b))) h := by
  unfold oEq
  rw [toP_S ha, toP_S hb]
  simp only [eqv_S]
@[simp] theorem eJoin_ (a : List Nat) (me : EM) (env : AE) (h : AH) : eJoin (eC (.str (S a))) me env h = (me env h).then fun x h2 => oJoin (S a) x h2 := rfl
theorem S_of (s : String) : Str.ofString s = S (Str.ofString s).cps.toList := (S_tl _).symm
theorem joinL_nil : ∀ ys : List (List Nat), TL.joinL [] ys = ys.flatten
  | [] => rfl
  | [p] => by simp [TL.joinL]
  | p :: q :: r => by
    show p ++ ([] ++ TL.joinL [] (q :: r)) = _
    rw [joinL_nil (q :: r)]; simp
theorem oJoin_ref {a : List Nat} {ys : List (List Nat)} {r : Nat} {h : AH} (hr : h[r]? = some (.lst (ys.map fun y => .str (S y)))) (hl : (ys.map (·.length)).sum + ys.length * a.length ≤ 16777216) : oJoin (S a) (.ref r) h = .ok (.str (S (TL.joinL a ys))) h := by
  unfold oJoin
  have e1 : seqOf h (.ref r) = some (ys.map fun y => .str (S y)) := by simp [seqOf, hr]
  have e2 : strsOf (ys.map fun y => D.str (S y)) = some (ys.map S) := by
    have := strsOf_map (ys.map S)
    rwa [List.map_map] at this
  rw [e1]
  dsimp only
  rw [e2]
  dsimp only
  rw [if_pos, join_S]
  unfold JoinOk
  rw [SX.lens, List.length_map, S_len]
  exact hl
theorem join_codes {cs : List Nat} {r : Nat} {h : AH} (hr : h[r]? = some (.lst (cs.map fun c => .str (S [c])))) (hl : cs.length ≤ 1000000) : oJoin (S []) (.ref r) h = .ok (.str (S cs)) h := by
  have e : (cs.map fun c => D.str (S [c])) = ((cs.map fun c => [c]).map fun y => D.str (S y)) := by rw [List.map_map]; rfl
  rw [e] at hr
  have s1 : (List.map (fun x => x.length) (cs.map fun c => [c])).sum = cs.length := by
    clear hr e hl
    induction cs with
    | nil => rfl
    | cons a b ih => simp only [List.map_cons, List.sum_cons, ih, List.length_cons, List.length_nil]; omega
  rw [oJoin_ref hr (by rw [s1]; simp; omega), joinL_nil]
  congr 3
  clear hr e hl s1
  induction cs with
  | nil => rfl
  | cons a b ih => simp [ih]
/-! raise, a field of the caught error -/
@[simp] theorem sRaise_1 (x f : Str) (m : EM) (env : AE) (h : AH) : sRaise x [f] (lCons m lNil) env h = (m env h).thenS env fun d h1 => .exc x [(f, d)] env h1 := by
  unfold sRaise
  rw [lCons_]
  cases m env h <;> rfl
@[simp] theorem eFld_1 (f : Str) (d : D) (env : AE) (h : AH) : eFld f [(f, d)] env h = .ok d h := by
  unfold eFld
  rw [List.lookup_cons_self]
def tryS (caught : Str → Option Bool) (i : Nat) (hd : Str → List (Str × D) → SM) (o : SR) : SR := match o with
  | .exc c fs e1 h1 => (match caught c with
    | some true => if i < e1.length then (hd c fs (e1.set i none) h1).gone i else .stuck
    | some false => .exc c fs e1 h1
    | none => .stuck)
  | r => r
@[simp] theorem sTry_ (caught : Str → Option Bool) (i : Nat) (b : SM) (hd : Str → List (Str × D) → SM) (e : AE) (h : AH) : sTry caught i b hd e h = tryS caught i hd (b e h) := by
  unfold sTry tryS
  cases b e h <;> rfl
@[simp] theorem tryS_exc (caught : Str → Option Bool) (i : Nat) (hd : Str → List (Str × D) → SM) (c : Str) (fs : List (Str × D)) (e1 : AE) (h1 : AH) : tryS caught i hd (.exc c fs e1 h1) = (match caught c with
    | some true => if i < e1.length then (hd c fs (e1.set i none) h1).gone i else .stuck
    | some false => .exc c fs e1 h1
    | none => .stuck) := rfl
@[simp] theorem tryS_nx (caught : Str → Option Bool) (i : Nat) (hd : Str → List (Str × D) → SM) (e1 : AE) (h1 : AH) : tryS caught i hd (.nx e1 h1) = .nx e1 h1 := rfl
@[simp] theorem tryS_rt (caught : Str → Option Bool) (i : Nat) (hd : Str → List (Str × D) → SM) (d : D) (h1 : AH) : tryS caught i hd (.rt d h1) = .rt d h1 := rfl
@[simp] theorem gone_nx (i : Nat) (e : AE) (h : AH) : (SR.nx e h).gone i = .nx (e.set i none) h := rfl
@[simp] theorem gone_rt (i : Nat) (d : D) (h : AH) : (SR.rt d h).gone i = .rt d h := rfl
theorem fits' {n : Nat} (h : n ≤ 16777216) : Fits n := fits h
@[simp] theorem mPop_ref {r : Nat} {h : AH} : mPop (.ref r) [] h = (match h[r]? with
    | some (.lst xs) => (match xs[xs.length - 1]? with
      | some y => .ok y (h.set r (.lst xs.dropLast))
      | none => .stuck)
    | _ => .stuck) := rfl
theorem mPop_app {r : Nat} {h : AH} {xs : List D} {y : D} (hr : h[r]? = some (.lst (xs ++ [y]))) : mPop (.ref r) [] h = .ok y (h.set r (.lst xs)) := by
  rw [mPop_ref, hr]; simp
end Rf

set_option maxHeartbeats 1000000
/-! the heap of a def that changes one old thing a and lays new things L -/
namespace Rf
open PySem L2 SX
def HS (h : AH) (a : Nat) (o : AO) (L : AH) : AH := h.set a o ++ L
section
variable {h L M : AH} {a k q i : Nat} {o o' u x : AO} {d : D}
@[simp high] theorem HS_len : (HS h a o L).length = h.length + L.length := by simp [HS]
@[simp high] theorem HS_a (ha : a < h.length) : (HS h a o L)[a]? = some o := by
  unfold HS
  rw [List.getElem?_append_left (by simpa using ha), List.getElem?_set_self ha]
@[simp high] theorem HS_k : (HS h a o L)[h.length + k]? = L[k]? := by
  unfold HS
  rw [List.getElem?_append_right (by simp)]
  simp
@[simp high] theorem HS_0 : (HS h a o L)[h.length]? = L[0]? := HS_k (k := 0)
theorem HS_old (hq : q < h.length) (ne : q ≠ a) : (HS h a o L)[q]? = h[q]? := by
  unfold HS
  rw [List.getElem?_append_left (by simpa using hq), List.getElem?_set_ne (Ne.symm ne)]
@[simp high] theorem HS_set_a (ha : a < h.length) : (HS h a o L).set a o' = HS h a o' L := by
  unfold HS
  rw [List.set_append_left _ _ (by simpa using ha), List.set_set]
@[simp high] theorem HS_set_k : (HS h a o L).set (h.length + k) x = HS h a o (L.set k x) := by
  unfold HS
  rw [List.set_append_right _ _ (by simp)]
  simp
@[simp high] theorem HS_set_0 : (HS h a o L).set h.length x = HS h a o (L.set 0 x) := HS_set_k (k := 0)
@[simp high] theorem HS_app : HS h a o L ++ M = HS h a o (L ++ M) := by simp [HS]
theorem HS_nil : HS h a o [] = h.set a o := by simp [HS]
theorem HS_one : h.set a o ++ L = HS h a o L := rfl
theorem HS_start (e : h[a]? = some o) : HS h a o [] = h := by rw [HS_nil, set_self e]
theorem gc_HS (p : d.pure = true) (f : o.flat = true) : gc h (.ok d (HS h a o L)) = .ok d (h.set a o) := gc_set_app p f
theorem gc_HS_new (f : o.flat = true) (e : L[i]? = some u) (fu : u.flat = true) : gc h (.ok (.ref (h.length + i)) (HS h a o L)) = .ok (.ref h.length) (h.set a o ++ [u]) := gc_set_new f e fu
noncomputable def addO (a b : Option AO) (h : AH) : ER := match a, b with
  | some (.lst xs), some (.lst ys) => if Fits (xs.length + ys.length) then .ok (.ref h.length) (h ++ [.lst (xs ++ ys)]) else .stuck
  | _, _ => .stuck
@[simp] theorem oAdd_refs (r q : Nat) (h : AH) : oAdd (.ref r) (.ref q) h = addO h[r]? h[q]? h := rfl
@[simp] theorem addO_lst (xs ys : List D) (h : AH) : addO (some (.lst xs)) (some (.lst ys)) h = if Fits (xs.length + ys.length) then .ok (.ref h.length) (h ++ [.lst (xs ++ ys)]) else .stuck := rfl
/-- a def that lays new things alone -/
def HN (h : AH) (L : AH) : AH := h ++ L
@[simp high] theorem HN_len : (HN h L).length = h.length + L.length := by simp [HN]
@[simp high] theorem HN_k : (HN h L)[h.length + k]? = L[k]? := by
  unfold HN
  rw [List.getElem?_append_right (by simp)]
  simp
@[simp high] theorem HN_0 : (HN h L)[h.length]? = L[0]? := HN_k (k := 0)
theorem HN_old (hq : q < h.length) : (HN h L)[q]? = h[q]? := by
  unfold HN
  rw [List.getElem?_append_left hq]
theorem HN_is (e : h[q]? = some o) : (HN h L)[q]? = some o := by rw [HN_old (List.getElem?_eq_some_iff.mp e).1, e]
@[simp high] theorem HN_set_k : (HN h L).set (h.length + k) x = HN h (L.set k x) := by
  unfold HN
  rw [List.set_append_right _ _ (by simp)]
  simp
@[simp high] theorem HN_set_0 : (HN h L).set h.length x = HN h (L.set 0 x) := HN_set_k (k := 0)
@[simp high] theorem HN_app : HN h L ++ M = HN h (L ++ M) := by simp [HN]
theorem HN_nil : HN h [] = h := by simp [HN]
theorem gc_HN (p : d.pure = true) : gc h (.ok d (HN h L)) = .ok d h := gc_app p
theorem gc_HN_new (e : L[i]? = some u) (fu : u.flat = true) : gc h (.ok (.ref (h.length + i)) (HN h L)) = .ok (.ref h.length) (h ++ [u]) := gc_new e fu
theorem gc_HN_new0 (e : L[0]? = some u) (fu : u.flat = true) : gc h (.ok (.ref h.length) (HN h L)) = .ok (.ref h.length) (h ++ [u]) := gc_new (i := 0) e fu
theorem gc_HS_new0 (f : o.flat = true) (e : L[0]? = some u) (fu : u.flat = true) : gc h (.ok (.ref h.length) (HS h a o L)) = .ok (.ref h.length) (h.set a o ++ [u]) := gc_set_new (i := 0) f e fu
end
end Rf

set_option maxHeartbeats 1000000
/-! odd values: plain data of any kind, compared with texts and the empty tuple, asked for their types -/
namespace Rf
open PySem L2 SX
@[simp] theorem ci_is (i : Int) (h : AH) : cIsi [.int i, .ty "str"] h = .ok (.bl false) h := by rw [cIsi_int _ _ _ (by decide)]; rfl
@[simp] theorem ci_it (i : Int) (h : AH) : cIsi [.int i, .ty "tuple"] h = .ok (.bl false) h := by rw [cIsi_int _ _ _ (by decide)]; rfl
@[simp] theorem ci_bi (i : Bool) (h : AH) : cIsi [.bl i, .ty "int"] h = .ok (.bl true) h := by rw [cIsi_bl _ _ _ (by decide)]; rfl
@[simp] theorem ci_bb (i : Bool) (h : AH) : cIsi [.bl i, .ty "bool"] h = .ok (.bl true) h := by rw [cIsi_bl _ _ _ (by decide)]; rfl
@[simp] theorem ci_bs (i : Bool) (h : AH) : cIsi [.bl i, .ty "str"] h = .ok (.bl false) h := by rw [cIsi_bl _ _ _ (by decide)]; rfl
@[simp] theorem ci_bt (i : Bool) (h : AH) : cIsi [.bl i, .ty "tuple"] h = .ok (.bl false) h := by rw [cIsi_bl _ _ _ (by decide)]; rfl
@[simp] theorem ci_si (i : Str) (h : AH) : cIsi [.str i, .ty "int"] h = .ok (.bl false) h := by rw [cIsi_str _ _ _ (by decide)]; rfl
@[simp] theorem ci_sb (i : Str) (h : AH) : cIsi [.str i, .ty "bool"] h = .ok (.bl false) h := by rw [cIsi_str _ _ _ (by decide)]; rfl
@[simp] theorem ci_ss (i : Str) (h : AH) : cIsi [.str i, .ty "str"] h = .ok (.bl true) h := by rw [cIsi_str _ _ _ (by decide)]; rfl
@[simp] theorem ci_st (i : Str) (h : AH) : cIsi [.str i, .ty "tuple"] h = .ok (.bl false) h := by rw [cIsi_str _ _ _ (by decide)]; rfl
@[simp] theorem ci_ni (h : AH) : cIsi [.non, .ty "int"] h = .ok (.bl false) h := by rw [cIsi_non _ _ (by decide)]; rfl
@[simp] theorem ci_nb (h : AH) : cIsi [.non, .ty "bool"] h = .ok (.bl false) h := by rw [cIsi_non _ _ (by decide)]; rfl
@[simp] theorem ci_ns (h : AH) : cIsi [.non, .ty "str"] h = .ok (.bl false) h := by rw [cIsi_non _ _ (by decide)]; rfl
@[simp] theorem ci_nt (h : AH) : cIsi [.non, .ty "tuple"] h = .ok (.bl false) h := by rw [cIsi_non _ _ (by decide)]; rfl
@[simp] theorem ci_ti (ds : List D) (h : AH) : cIsi [.tup ds, .ty "int"] h = .ok (.bl false) h := by rw [cIsi_tup _ _ _ (by decide)]; rfl
@[simp] theorem ci_tb (ds : List D) (h : AH) : cIsi [.tup ds, .ty "bool"] h = .ok (.bl false) h := by rw [cIsi_tup _ _ _ (by decide)]; rfl
@[simp] theorem ci_ts (ds : List D) (h : AH) : cIsi [.tup ds, .ty "str"] h = .ok (.bl false) h := by rw [cIsi_tup _ _ _ (by decide)]; rfl
@[simp] theorem gc_b_ (b : Bool) (h : AH) : gc h (.ok (.bl b) h) = .ok (.bl b) h := gc_same rfl
@[simp] theorem gc_n_ (h : AH) : gc h (.ok .non h) = .ok .non h := gc_same rfl
@[simp] theorem gc_i_ (i : Int) (h : AH) : gc h (.ok (.int i) h) = .ok (.int i) h := gc_same rfl
@[simp] theorem gc_x_ (c : Str) (fs : List (Str × D)) (h h' : AH) : gc h (.exc c fs h') = .exc c fs h' := rfl
/-- plain data nested at most k deep -/
def Pd : Nat → D → Prop
  | _, .non => True
  | _, .bl _ => True
  | _, .int _ => True
  | _, .str x => PyData.strOk x = true
  | k + 1, .tup ds => ∀ d ∈ ds, Pd k d
  | _, _ => False
theorem Pd.tup {k : Nat} {ds : List D} (h : Pd (k + 1) (.tup ds)) : ∀ d ∈ ds, Pd k d := h
theorem Pd.mono : ∀ {k : Nat} {d : D}, Pd k d → ∀ j, k ≤ j → Pd j d
  | _, .non, _, j, _ => by cases j <;> trivial
  | _, .bl _, _, j, _ => by cases j <;> trivial
  | _, .int _, _, j, _ => by cases j <;> trivial
  | k, .str x, h, j, _ => by cases k <;> cases j <;> exact h
  | k + 1, .tup ds, h, j + 1, hj => fun d hd => Pd.mono (h d hd) j (by omega)
  | k + 1, .tup ds, h, 0, hj => absurd hj (by omega)
  | 0, .tup ds, h, _, _ => h.elim
  | k, .ty _, h, _, _ => by cases k <;> exact h.elim
  | k, .rol _, h, _, _ => by cases k <;> exact h.elim
  | k, .kt _, h, _, _ => by cases k <;> exact h.elim
  | k, .ref _, h, _, _ => by cases k <;> exact h.elim
theorem Pd.pure : ∀ {k : Nat} {d : D}, Pd k d → d.pure = true
  | _, .non, _ => rfl
  | _, .bl _, _ => rfl
  | _, .int _, _ => rfl
  | _, .str _, _ => rfl
  | k + 1, .tup ds, h => pures_iff.mpr fun d hd => Pd.pure (h d hd)
  | 0, .tup ds, h => h.elim
  | k, .ty _, h => by cases k <;> exact h.elim
  | k, .rol _, h => by cases k <;> exact h.elim
  | k, .kt _, h => by cases k <;> exact h.elim
  | k, .ref _, h => by cases k <;> exact h.elim
theorem mapM_eq {α β : Type} {f : α → Option β} {g : α → β} : ∀ {l : List α}, (∀ x ∈ l, f x = some (g x)) → l.mapM f = some (l.map g)
  | [], _ => rfl
  | a :: l, h => by
    rw [List.mapM_cons, h a (by simp), mapM_eq (l := l) fun x hx => h x (by simp [hx])]
    rfl
/-- the data that a plain value is -/
def datOf : Nat → D → PyData
  | _, .non => .none
  | _, .bl b => .bool b
  | _, .int i => .int i
  | _, .str x => .str x
  | k + 1, .tup ds => .tuple (ds.map (datOf k))
  | _, _ => .none
theorem Pd.toP : ∀ {k : Nat} {d : D}, Pd k d → ∀ (h : AH) (j : Nat), k ≤ j → d.toP h j = some (datOf k d)
  | k, .non, _, h, j, _ => by cases j <;> cases k <;> rfl
  | k, .bl _, _, h, j, _ => by cases j <;> cases k <;> rfl
  | k, .int _, _, h, j, _ => by cases j <;> cases k <;> rfl
  | k, .str x, p, h, j, _ => by
    have hx : PyData.strOk x = true := by cases k <;> exact p
    cases j <;> cases k <;> exact if_pos hx
  | k + 1, .tup ds, p, h, j + 1, hj => by
    have e : ds.mapM (D.toP h j) = some (ds.map (datOf k)) := mapM_eq fun d hd => Pd.toP (p d hd) h j (by omega)
    show (ds.mapM (D.toP h j)).map PyData.tuple = _
    rw [e]; rfl
  | k + 1, .tup ds, p, h, 0, hj => absurd hj (by omega)
  | 0, .tup ds, p, _, _, _ => p.elim
  | k, .ty _, p, _, _, _ => by cases k <;> exact p.elim
  | k, .rol _, p, _, _, _ => by cases k <;> exact p.elim
  | k, .kt _, p, _, _, _ => by cases k <;> exact p.elim
  | k, .ref _, p, _, _, _ => by cases k <;> exact p.elim
def isS (s : Str) : D → Bool
  | .str x => x == s
  | _ => false
theorem oEq_S {k : Nat} {w : D} (hw : Pd k w) (hk : k ≤ 20) {s : Str} (hs : PyData.strOk s = true) {h : AH} : oEq w (.str s) h = .ok (.bl (isS s w)) h := by
  have e2 : (D.str s).toP h 20 = some (.str s) := if_pos hs
  unfold oEq
  rw [e2, hw.toP h 20 hk]
  cases w <;> cases k <;> first | exact hw.elim | simp [datOf, isS, PyData.eqv]
theorem oNe_S {k : Nat} {w : D} (hw : Pd k w) (hk : k ≤ 20) {s : Str} (hs : PyData.strOk s = true) {h : AH} : oNe w (.str s) h = .ok (.bl (!isS s w)) h := by
  have e2 : (D.str s).toP h 20 = some (.str s) := if_pos hs
  unfold oNe
  rw [e2, hw.toP h 20 hk]
  cases w <;> cases k <;> first | exact hw.elim | simp [datOf, isS, PyData.eqv]
def isT0 : D → Bool
  | .tup ds => ds.isEmpty
  | _ => false
theorem oNe_T0 {k : Nat} {w : D} (hw : Pd k w) (hk : k ≤ 20) {h : AH} : oNe w (.tup []) h = .ok (.bl (!isT0 w)) h := by
  have e2 : (D.tup []).toP h 20 = some (.tuple []) := rfl
  unfold oNe
  rw [e2, hw.toP h 20 hk]
  cases w with
  | tup ds =>
    cases k with
    | zero => exact hw.elim
    | succ k => cases ds <;> simp [datOf, isT0, PyData.eqv, PyData.eqvAll]
  | _ => cases k <;> first | exact hw.elim | simp [datOf, isT0, PyData.eqv]
/-- an index below n -/
def idx (n : Nat) : D → Option Nat
  | .int i => if 0 ≤ i ∧ i < (n : Int) then some i.toNat else none
  | _ => none
theorem idx_some {n i : Nat} {d : D} (e : idx n d = some i) : d = dN i ∧ i < n := by
  cases d with
  | int j =>
    simp only [idx] at e
    by_cases q : 0 ≤ j ∧ j < (n : Int)
    · rw [if_pos q] at e
      have e := Option.some.inj e
      subst e
      exact ⟨by unfold dN; rw [Int.toNat_of_nonneg q.1], by omega⟩
    · rw [if_neg q] at e; exact absurd e (by simp)
  | _ => exact absurd e (by simp [idx])
theorem idx_N {n i : Nat} : idx n (dN i) = if i < n then some i else none := by
  simp only [idx, dN]
  by_cases h : i < n
  · rw [if_pos (by omega), if_pos h]; rfl
  · rw [if_neg (by omega), if_neg h]
theorem eChain_int (i : Int) (n : Nat) {a b c : EM} {e : AE} {h : AH} (ha : a e h = .ok (.int 0) h) (hb : b e h = .ok (.int i) h) (hc : c e h = .ok (.int (n : Int)) h) : eChain oLe oLt a b c e h = .ok (.bl (decide (0 ≤ i ∧ i < (n : Int)))) h := by
  unfold eChain
  by_cases q : 0 ≤ i
  · by_cases q2 : i < (n : Int)
    · simp [ha, hb, hc, q, q2, ER.then]
    · simp [ha, hb, hc, q, q2, ER.then]
  · simp [ha, hb, hc, q, ER.then]
theorem strOk_S (s : String) (h : ((Str.ofString s).cps.toList.all fun c => decide (c < 0x110000)) = true) : PyData.strOk (Str.ofString s) = true := by
  unfold PyData.strOk
  rw [← Array.all_toList]
  exact h
/-- sizes that texts and rows have -/
theorem fitsK (n : Nat) (h : n ≤ 16777216) : Fits n := fits h
@[simp] theorem powB_30 : PowB 10 30 := powB (by decide) (by decide) (by decide)
end Rf

set_option maxHeartbeats 1000000
/-! perms as lists: one after another, the inverse -/
namespace Rf
open PySem L2 SX
section
variable {n : Nat} {f s p q : List Nat}
/-- first f, then s -/
def mulP (f s : List Nat) : List Nat := f.map fun x => s.getD x 0
theorem mulP_len : (mulP f s).length = f.length := by simp [mulP]
theorem mulP_at {i : Nat} (hi : i < f.length) : (mulP f s).getD i 0 = s.getD (f.getD i 0) 0 := map_getD hi
theorem mulP_isP (P : IsP n f) (Q : IsP n s) : IsP n (mulP f s) := by
  have lf := P.len
  refine ⟨by rw [mulP_len, lf], fun i hi => by rw [mulP_at (by omega)]; exact Q.lt _ (P.lt i hi), fun i j hi hj e => ?_⟩
  rw [mulP_at (by omega), mulP_at (by omega)] at e
  exact P.inj i j hi hj (Q.inj _ _ (P.lt i hi) (P.lt j hj) e)
open Classical in
noncomputable def invP (n : Nat) (p : List Nat) : List Nat := (List.range n).map fun y => if h : ∃ i, i < n ∧ p.getD i 0 = y then Classical.choose h else 0
open Classical in
theorem invP_inv (P : IsP n p) : Inv n p (invP n p) := by
  refine ⟨by simp [invP], fun i hi => ?_⟩
  have hy := P.lt i hi
  have h : ∃ j, j < n ∧ p.getD j 0 = p.getD i 0 := ⟨i, hi, rfl⟩
  unfold invP
  rw [map_getD (d := 0) (by simpa using hy), range_D hy, dif_pos h]
  have := Classical.choose_spec h
  exact P.inj _ _ this.1 hi this.2
theorem invP_eq (P : IsP n p) (h : Inv n p q) : invP n p = q := Inv.uniq P (invP_inv P) h
theorem invP_isP (P : IsP n p) : IsP n (invP n p) := (invP_inv P).isP P
theorem invP_len : (invP n p).length = n := by simp [invP]
/-- drawn one by one from 0 .. n - 1 -/
theorem isP_perm (pm : p.Perm (List.range n)) : IsP n p := by
  have l : p.length = n := by simpa using pm.length_eq
  have nd : p.Nodup := pm.nodup_iff.mpr List.nodup_range
  refine ⟨l, fun i hi => ?_, fun i j hi hj e => nodup_getD nd (by omega) (by omega) e⟩
  have : p.getD i 0 ∈ p := getD_mem (by omega)
  exact List.mem_range.mp (pm.mem_iff.mp this)
theorem perm_pick : ∀ {l : List Nat} {d : Nat}, d < l.length → (l.getD d 0 :: l.eraseIdx d).Perm l
  | [], d, h => absurd h (by simp)
  | a :: l, 0, _ => List.Perm.refl _
  | a :: l, d + 1, h => by
    have ih := perm_pick (l := l) (d := d) (by simpa using h)
    exact (List.Perm.swap _ _ _).trans (ih.cons a)
end
end Rf

set_option maxHeartbeats 1000000
/-! reckoning: [f x for x in d.values()] where d stands still -/
namespace Rf
open PySem L2
theorem lcN_liveD {g : GM} {tt te : EM} {e0 : AE} {r : Nat} {kvs : List (Key × D)} {od : Obj} {ws : List (Key × V)} : ∀ (k i : Nat) (acc : List D) (h : AH), h[r]? = some (.lk kvs od ws) →
    (∀ (i : Nat) (d : D), (kvs.map (·.2))[i]? = some d → ∀ e1 h1, g d e0 h = .nx e1 h1 → h1 = h ∧ (∀ b h2, tt e1 h = .ok (.bl b) h2 → h2 = h) ∧ ∀ d2 h3, te e1 h = .ok d2 h3 → h3 = h) →
    lcN (liveD r kvs od ws) g tt te e0 k i acc h = lcN (stat (kvs.map (·.2))) g tt te e0 k i acc h
  | 0, i, acc, h, _, _ => rfl
  | k + 1, i, acc, h, e0', hs => by
    have nx : (liveD r kvs od ws).nxt i h = some ((kvs.map (·.2))[i]?) := by
      unfold liveD; dsimp only; rw [if_pos e0', List.getElem?_map]
    have nx2 : (stat (kvs.map (·.2))).nxt i h = some ((kvs.map (·.2))[i]?) := rfl
    unfold lcN
    rw [nx, nx2]
    cases hd : (kvs.map (·.2))[i]? with
    | none => rfl
    | some d =>
      dsimp only
      cases hg : g d e0 h with
      | nx e1 h1 =>
        obtain ⟨rfl, q1, q2⟩ := hs i d hd e1 h1 hg
        dsimp only
        cases ht : tt e1 h1 with
        | ok db h2 =>
          cases db with
          | bl b =>
            have := q1 b h2 ht
            subst this
            cases b with
            | true =>
              dsimp only
              cases he : te e1 h2 with
              | ok d2 h3 =>
                have := q2 d2 h3 he
                subst this
                dsimp only
                split
                · exact lcN_liveD k (i + 1) (acc ++ [d2]) h3 e0' hs
                · rfl
              | _ => rfl
            | false => exact lcN_liveD k (i + 1) acc h2 e0' hs
          | _ => rfl
        | _ => rfl
      | _ => rfl
theorem eLc_dvals {α : Type} {φ : α → D} {k r : Nat} {me te : EM} {vs : List Nat} {e : AE} {h : AH} {kvs : List (Key × D)} {od : Obj} {ws : List (Key × V)} (xs : List α) (f : α → D)
    (hm : me e h = .ok (.ref r) h) (hr : h[r]? = some (.lk kvs od ws)) (hk : kvs.map (·.2) = xs.map φ) (hl : xs.length ≤ sizeLine)
    (hf : ∀ x ∈ xs, te ((wipeE e vs).set k (some (φ x))) h = .ok (f x) h) : eLc (iDVals me) (gVar k) (eC (.bl true)) te vs e h = .ok (.ref h.length) (h ++ [.lst (xs.map f)]) := by
  have hi : iDVals me e h = .ok (liveD r kvs od ws) h := by unfold iDVals; rw [hm]; dsimp only; rw [hr]
  unfold eLc
  rw [hi]
  have := lc_pure (φ := φ) (k := k) (tt := eC (.bl true)) (te := te) (e0 := wipeE e vs) (h := h) (fun _ => true) f (ds := xs.map φ) xs 0 [] rfl (by simpa using hl) (fun x hx => rfl) fun x hx _ => hf x hx
  have l := lcN_liveD (g := gVar k) (tt := eC (.bl true)) (te := te) (e0 := wipeE e vs) (r := r) (kvs := kvs) (od := od) (ws := ws) (xs.length + 1) 0 [] h hr fun i d hd e1 h1' hg => by
    rw [gVar_] at hg
    cases hg
    rw [hk, List.getElem?_map] at hd
    cases hx : xs[i]? with
    | none => rw [hx] at hd; cases hd
    | some x =>
      rw [hx] at hd
      cases hd
      have mx := List.mem_of_getElem? hx
      refine ⟨rfl, fun b h2 e2 => ?_, fun d2 h3 e3 => ?_⟩
      · cases e2; rfl
      · rw [hf x mx] at e3; cases e3; rfl
  have hn : (liveD r kvs od ws).n = xs.length := by
    show kvs.length = _
    have := congrArg List.length hk
    simpa using this
  rw [hk] at l
  simp only [hn, l, this, List.nil_append]
  rw [List.filter_eq_self.mpr (by simp)]
/-- a loop that goes on or ends for good -/
def Stop : SR → Prop
  | .rt _ _ => True
  | .exc _ _ _ _ => True
  | _ => False
theorem Stop.again {o : SR} (s : Stop o) (k : SM) : again o k = o := by
  cases o <;> first | rfl | exact s.elim
theorem Stop.then {o : SR} (s : Stop o) (k : SM) : o.then k = o := by
  cases o <;> first | rfl | exact s.elim
theorem loop_stop {g : GM} {b : SM} (P : Nat → AE → AH → Prop) (S : SR → Prop) (hS : ∀ o, S o → Stop o) : ∀ (ds : List D) (k : Nat) (e : AE) (h : AH), P k e h →
    (∀ (i : Nat) (d : D) (e : AE) (h : AH), ds[i]? = some d → P (k + i) e h → (∃ e' h', (onlyNx (g d e h)).then b = .nx e' h' ∧ P (k + i + 1) e' h') ∨ S ((onlyNx (g d e h)).then b)) →
    (∃ e' h', sLoop g b ds e h = .nx e' h' ∧ P (k + ds.length) e' h') ∨ S (sLoop g b ds e h)
  | [], k, e, h, p, _ => .inl ⟨e, h, rfl, p⟩
  | d :: ds, k, e, h, p, st => by
    rcases st 0 d e h rfl p with ⟨e1, h1, q, p1⟩ | q
    · rcases loop_stop P S hS ds (k + 1) e1 h1 p1 fun i d' e' h' hd hp => by
          have hp' : P (k + (i + 1)) e' h' := by rwa [show k + (i + 1) = k + 1 + i by omega]
          rcases st (i + 1) d' e' h' (by simpa using hd) hp' with ⟨e3, h3, a, c⟩ | c
          · exact .inl ⟨e3, h3, a, by rwa [show k + 1 + i + 1 = k + (i + 1) + 1 by omega]⟩
          · exact .inr c with ⟨e2, h2, q2, p2⟩ | q2
      · refine .inl ⟨e2, h2, ?_, by rwa [List.length_cons, show k + (ds.length + 1) = k + 1 + ds.length by omega]⟩
        unfold sLoop
        rw [q]
        exact q2
      · refine .inr ?_
        unfold sLoop
        rw [q]
        exact q2
    · refine .inr ?_
      unfold sLoop
      rw [(hS _ q).again]
      exact q
end Rf

set_option maxHeartbeats 1000000
/-! repr of small plain data: a text that fits and is well formed -/
namespace Rf
open PySem L2 SX
/-- a well formed text of at most B signs -/
def Ok (B : Nat) (x : Str) : Prop := (∀ c ∈ TL.tl x, c < 0x110000) ∧ (TL.tl x).length ≤ B
theorem Ok.mono {B C : Nat} {x : Str} (h : Ok B x) (l : B ≤ C) : Ok C x := ⟨h.1, Nat.le_trans h.2 l⟩
theorem Ok.app {B C : Nat} {x y : Str} (hx : Ok B x) (hy : Ok C y) : Ok (B + C) (x ++ y) := by
  unfold Ok
  rw [TL.tl_append]
  refine ⟨fun c hc => ?_, ?_⟩
  · rcases List.mem_append.mp hc with h | h
    · exact hx.1 c h
    · exact hy.1 c h
  · rw [List.length_append]; have := hx.2; have := hy.2; omega
theorem Ok.join {B C : Nat} {x : Str} (hx : Ok B x) : ∀ {ys : List Str}, (∀ y ∈ ys, Ok C y) → Ok (ys.length * (B + C)) (Str.join x ys)
  | [], _ => ⟨fun c hc => absurd (show c ∈ ([] : List Nat) from hc) (by simp), Nat.zero_le _⟩
  | [y], h => by
    have := h y (by simp)
    exact this.mono (by simp)
  | y :: z :: r, h => by
    have ih := Ok.join hx (ys := z :: r) fun w hw => h w (by simp [List.mem_cons.mp hw])
    have e : Str.join x (y :: z :: r) = y ++ x ++ Str.join x (z :: r) := rfl
    rw [e]
    refine (((h y (by simp)).app hx).app ih).mono ?_
    simp only [List.length_cons]
    rw [Nat.add_mul (r.length + 1) 1 (B + C)]
    omega
theorem Ok.strOk {B : Nat} {x : Str} (h : Ok B x) : PyData.strOk x = true := by
  unfold PyData.strOk
  rw [Array.all_eq_true_iff_forall_mem]
  intro c hc
  exact decide_eq_true (h.1 c (by simpa [TL.tl] using hc))
theorem Ok.len {B : Nat} {x : Str} (h : Ok B x) : x.length ≤ B := by
  have : (TL.tl x).length = x.length := by simp [TL.tl, Str.length]
  rw [← this]; exact h.2
theorem ok_int {i : Int} (h : i.natAbs < 10 ^ 60) : Ok 61 (Str.ofString (toString i)) := by
  refine ⟨fun c hc => ?_, ?_⟩
  · refine Nat.lt_of_not_le fun q => ?_
    exact PyProof.Rows.int_text_free' c ⟨by omega, .inr (by omega)⟩ i hc
  · have := int_text_length_le10 (a := i) (k := 60) (by decide) h
    have e : (TL.tl (Str.ofString (toString i))).length = (Str.ofString (toString i)).length := by simp [TL.tl, Str.length]
    rw [e, ofString_length]
    exact this
/-- small plain data nested at most k deep -/
def Sm : Nat → D → Prop
  | _, .non => True
  | _, .bl _ => True
  | _, .int i => i.natAbs < 10 ^ 60
  | _, .str x => PyData.strOk x = true ∧ Ok 61 (reprText x)
  | k + 1, .tup ds => ds.length ≤ 40 ∧ ∀ d ∈ ds, Sm k d
  | _, _ => False
theorem Sm.pd : ∀ {k : Nat} {d : D}, Sm k d → Pd k d
  | k, .non, _ => by cases k <;> trivial
  | k, .bl _, _ => by cases k <;> trivial
  | k, .int _, _ => by cases k <;> trivial
  | k, .str x, h => by cases k <;> exact h.1
  | k + 1, .tup ds, h => fun d hd => Sm.pd (h.2 d hd)
  | 0, .tup ds, h => h.elim
  | k, .ty _, h => by cases k <;> exact h.elim
  | k, .rol _, h => by cases k <;> exact h.elim
  | k, .kt _, h => by cases k <;> exact h.elim
  | k, .ref _, h => by cases k <;> exact h.elim
def smB : Nat → Nat
  | 0 => 61
  | k + 1 => 40 * (smB k + 2) + 3
theorem smB_pos : ∀ k, 61 ≤ smB k
  | 0 => Nat.le_refl _
  | k + 1 => by have := smB_pos k; simp only [smB]; omega
theorem shownAll_map (f : D → PyData) : ∀ ds : List D, PyData.shownAll (ds.map f) = ds.map fun d => (f d).shown
  | [] => rfl
  | d :: ds => by simp only [List.map_cons, PyData.shownAll, shownAll_map f ds]
theorem showableAll_map (f : D → PyData) : ∀ ds : List D, (∀ d ∈ ds, (f d).showable = true) → PyData.showableAll (ds.map f) = true
  | [], _ => rfl
  | d :: ds, h => by
    simp only [List.map_cons, PyData.showableAll, h d (by simp), showableAll_map f ds fun x hx => h x (by simp [hx]), Bool.and_self]
theorem ok_lit (s : String) (B : Nat) (h : ((TL.tl (Str.ofString s)).all fun c => decide (c < 0x110000)) = true) (l : (TL.tl (Str.ofString s)).length ≤ B) : Ok B (Str.ofString s) :=
  ⟨fun c hc => of_decide_eq_true (List.all_eq_true.mp h c hc), l⟩
theorem log2_60 {i : Int} (h : i.natAbs < 10 ^ 60) : i.natAbs.log2 < 1920 := by
  have a : (10 : Nat) ^ 60 ≤ (2 ^ 4) ^ 60 := Nat.pow_le_pow_left (by decide) 60
  rw [← Nat.pow_mul] at a
  have b : i.natAbs < 2 ^ 240 := Nat.lt_of_lt_of_le h a
  by_cases z : i.natAbs = 0
  · rw [z]; simp
  · have := (Nat.log2_lt z).mpr b
    omega
theorem Sm.shown : ∀ {k : Nat} {d : D}, Sm k d → Ok (smB k) (datOf k d).shown ∧ (datOf k d).showable = true
  | k, .non, _ => ⟨by cases k <;> exact (ok_lit "None" 61 (by decide) (by decide)).mono (smB_pos _), by cases k <;> rfl⟩
  | k, .bl b, _ => ⟨by cases k <;> cases b <;> first | exact (ok_lit "True" 61 (by decide) (by decide)).mono (smB_pos _) | exact (ok_lit "False" 61 (by decide) (by decide)).mono (smB_pos _), by cases k <;> rfl⟩
  | k, .int i, h => by
    have h' : i.natAbs < 10 ^ 60 := by cases k <;> exact h
    refine ⟨?_, ?_⟩
    · cases k <;> exact (ok_int h').mono (smB_pos _)
    · cases k <;> exact decide_eq_true (log2_60 h')
  | k, .str x, h => by
    have h' : Ok 61 (reprText x) := by cases k <;> exact h.2
    exact ⟨by cases k <;> exact h'.mono (smB_pos _), by cases k <;> rfl⟩
  | k + 1, .tup ds, h => by
    have e : (datOf (k + 1) (.tup ds)).shown = tupleText (ds.map fun d => (datOf k d).shown) := by
      show PyData.shown (.tuple (ds.map (datOf k))) = _
      simp only [PyData.shown, shownAll_map]
    rw [e]
    refine ⟨?_, ?_⟩
    · unfold tupleText
      have j := Ok.join (B := 2) (C := smB k) (x := Str.ofString ", ") (ok_lit ", " 2 (by decide) (by decide)) (ys := ds.map fun d => (datOf k d).shown) fun y hy => by
        obtain ⟨d, hd, rfl⟩ := List.mem_map.mp hy
        exact (Sm.shown (h.2 d hd)).1
      have t : Ok 2 (Str.ofString (if (ds.map fun d => (datOf k d).shown).length == 1 then ",)" else ")" : String)) := by
        split
        · exact ok_lit ",)" 2 (by decide) (by decide)
        · exact ok_lit ")" 2 (by decide) (by decide)
      refine (((ok_lit "(" 1 (by decide) (by decide)).app j).app t).mono ?_
      rw [List.length_map]
      have := Nat.mul_le_mul_right (2 + smB k) h.1
      simp only [smB]
      omega
    · show PyData.showable (.tuple (ds.map (datOf k))) = true
      simp only [PyData.showable]
      exact showableAll_map _ _ fun d hd => (Sm.shown (h.2 d hd)).2
  | 0, .tup ds, h => h.elim
  | k, .ty _, h => by cases k <;> exact h.elim
  | k, .rol _, h => by cases k <;> exact h.elim
  | k, .kt _, h => by cases k <;> exact h.elim
  | k, .ref _, h => by cases k <;> exact h.elim
theorem eqvAll_refl (f : D → PyData) : ∀ ds : List D, (∀ d ∈ ds, PyData.eqv (f d) (f d) = true) → PyData.eqvAll (ds.map f) (ds.map f) = true
  | [], _ => rfl
  | d :: ds, h => by
    simp only [List.map_cons, PyData.eqvAll, h d (by simp), eqvAll_refl f ds fun x hx => h x (by simp [hx]), Bool.and_self]
theorem Sm.same : ∀ {k : Nat} {d : D}, Sm k d → PyData.eqv (datOf k d) (datOf k d) = true
  | k, .non, _ => by cases k <;> simp [datOf, PyData.eqv]
  | k, .bl b, _ => by cases k <;> simp [datOf, PyData.eqv]
  | k, .int i, h => by cases k <;> simp [datOf, PyData.eqv]
  | k, .str x, h => by cases k <;> simp [datOf, PyData.eqv]
  | k + 1, .tup ds, h => by
    show PyData.eqv (.tuple (ds.map (datOf k))) (.tuple (ds.map (datOf k))) = true
    simp only [PyData.eqv]
    exact eqvAll_refl _ _ fun d hd => Sm.same (h.2 d hd)
  | 0, .tup ds, h => h.elim
  | k, .ty _, h => by cases k <;> exact h.elim
  | k, .rol _, h => by cases k <;> exact h.elim
  | k, .kt _, h => by cases k <;> exact h.elim
  | k, .ref _, h => by cases k <;> exact h.elim
theorem smB_le {k : Nat} (hk : k ≤ 3) : smB k ≤ 16777216 := by
  match k, hk with
  | 0, _ => decide
  | 1, _ => decide
  | 2, _ => decide
  | 3, _ => decide
/-- what is asked of a kept value: the same repr, and equal -/
theorem Sm.kept {k : Nat} {d : D} (w : Sm k d) (hk : k ≤ 3) : ∃ x, (∀ h, cRepr [d] h = .ok (.str x) h) ∧ (∀ h, oEq (.str x) (.str x) h = .ok (.bl true) h) ∧ ∀ h, oEq d d h = .ok (.bl true) h := by
  have a := w.shown
  refine ⟨(datOf k d).shown, fun h => ?_, fun h => ?_, fun h => ?_⟩
  · unfold cRepr
    dsimp only
    rw [w.pd.toP h 20 (by omega)]
    dsimp only
    rw [if_pos a.2, if_pos (fits (Nat.le_trans a.1.len (smB_le hk)))]
  · have e2 : (D.str (datOf k d).shown).toP h 20 = some (.str (datOf k d).shown) := if_pos a.1.strOk
    unfold oEq
    rw [e2]
    simp [PyData.eqv]
  · unfold oEq
    rw [w.pd.toP h 20 (by omega)]
    simp only [w.same]
end Rf

set_option maxHeartbeats 1000000
/-! reckoning: for x in range(i, j); loops that look for the first thing -/
namespace Rf
open PySem L2
theorem rgB2 {i j : Nat} (hi : i ≤ 1000000) (hj : j ≤ 1000000) : RgB2 (i : Int) (j : Int) := ⟨by omega, by omega, by omega, by omega⟩
theorem sFor_range2 {l : LM} {g : GM} {b : SM} {e : AE} {h h1 : AH} {i j : Nat} (hl : l e h = .ok [.int i, .int j] h1) (hi : i ≤ 1000000) (hj : j ≤ 1000000) : sFor (iRange2 l) g b e h = sLoop g b ((List.range (j - i)).map fun t => dN (i + t)) e h1 := by
  have e2 : ((j : Int) - (i : Int)).toNat = j - i := by omega
  have : iRange2 l e h = .ok (stat ((List.range (j - i)).map fun t => dN (i + t))) h1 := by
    unfold iRange2
    rw [hl]
    dsimp only
    rw [if_pos (rgB2 hi hj), e2]
    congr 1
  rw [sFor_stat this]
/-- the first x with f x = some y: the loop hands back ret y -/
theorem loop_find {α β : Type} {φ : α → D} {g : GM} {b : SM} (P : AE → AH → Prop) (Q : AH → Prop) (f : α → Option β) (ret : β → D) : ∀ (xs : List α) (e : AE) (h : AH), P e h →
    (∀ x ∈ xs, ∀ e h, P e h → (f x = none → ∃ e' h', (onlyNx (g (φ x) e h)).then b = .nx e' h' ∧ P e' h') ∧ ∀ y, f x = some y → ∃ h', (onlyNx (g (φ x) e h)).then b = .rt (ret y) h' ∧ Q h') →
    (xs.findSome? f = none → ∃ e' h', sLoop g b (xs.map φ) e h = .nx e' h' ∧ P e' h') ∧ ∀ y, xs.findSome? f = some y → ∃ h', sLoop g b (xs.map φ) e h = .rt (ret y) h' ∧ Q h'
  | [], e, h, p, _ => ⟨fun _ => ⟨e, h, rfl, p⟩, fun y z => (nomatch z)⟩
  | x :: xs, e, h, p, st => by
    obtain ⟨s1, s2⟩ := st x (by simp) e h p
    rw [List.findSome?_cons]
    cases q : f x with
    | some y =>
      obtain ⟨h', w, r⟩ := s2 y q
      refine ⟨fun z => (nomatch z), fun y' z => ?_⟩
      have z := Option.some.inj z
      subst z
      refine ⟨h', ?_, r⟩
      rw [List.map_cons]
      unfold sLoop
      rw [w]; rfl
    | none =>
      obtain ⟨e1, h1, w, p1⟩ := s1 q
      obtain ⟨t1, t2⟩ := loop_find P Q f ret xs e1 h1 p1 fun x' hx => st x' (by simp [hx])
      have eq : sLoop g b ((x :: xs).map φ) e h = sLoop g b (xs.map φ) e1 h1 := by
        rw [List.map_cons]
        conv => lhs; unfold sLoop
        rw [w]; rfl
      exact ⟨fun z => by rw [eq]; exact t1 z, fun y z => by rw [eq]; exact t2 y z⟩
theorem numD_map {α : Type} (f : α → D) (xs : List α) (d : α) : numD (xs.map f) = (List.range xs.length).map fun k => .tup [dN k, f (xs.getD k d)] := by
  apply List.ext_getElem?
  intro i
  rw [numD_at, List.getElem?_map, List.getElem?_map]
  by_cases hi : i < xs.length
  · rw [List.getElem?_range hi, getD_some (a := d) hi]; rfl
  · rw [List.getElem?_eq_none (by omega), List.getElem?_eq_none (by simp; omega)]; rfl
end Rf

set_option maxHeartbeats 1000000
namespace Law
open PySem Rf L2
def Bag (N : Nat) (o : AO) : Prop := ∃ b0 b1 b2 : Int, o = .lst [.int b0, .int b1, .int b2] ∧ (0 ≤ b0 ∧ b0 < 10 ^ 60) ∧ (0 ≤ b1 ∧ b1 < 10 ^ 60) ∧ 0 ≤ b2 ∧ b2 ≤ N
theorem Bag.flat {N : Nat} {o : AO} (b : Bag N o) : o.flat = true := by
  obtain ⟨b0, b1, b2, rfl, _⟩ := b
  rfl
theorem Bag.mono {N M : Nat} {o : AO} (b : Bag N o) (h : N ≤ M) : Bag M o := by
  obtain ⟨b0, b1, b2, e, h0, h1, h2, h3⟩ := b
  exact ⟨b0, b1, b2, e, h0, h1, h2, by omega⟩
theorem take_spec {h : AH} {a N : Nat} {o : AO} (ha : h[a]? = some o) (hb : Bag N o) (hN : N ≤ 1000000000) {s : Int} (hs : 0 < s) (hs2 : s < 10 ^ 60) :
    ∃ (d : Nat) (o' : AO), c__law_take [.ref a, .int s] h = .ok (.int d) (h.set a o') ∧ (d : Int) < s ∧ Bag (N + 1) o' := by
  obtain ⟨b0, b1, b2, rfl, ⟨h00, h01⟩, ⟨h10, h11⟩, h20, h21⟩ := hb
  have hal : a < h.length := (List.getElem?_eq_some_iff.mp ha).1
  have e0 : (h.set a (.lst [.int b0, .int b1, .int (b2 + 1)]))[a]? = some (.lst [.int b0, .int b1, .int (b2 + 1)]) := List.getElem?_set_self hal
  have hd : DivOk s := divB hs (by omega)
  have c1 : CMulX 7919 (b2 + 1) := mulB (by omega) (by omega) (by omega) (by omega)
  have c2 : CMulX (b1 + 7919 * (b2 + 1)) 48271 := mulB (by omega) (by omega) (by omega) (by omega)
  have c3 : CMulX 104729 (b2 + 1) := mulB (by omega) (by omega) (by omega) (by omega)
  have c4 : CMulX ((b1 + 7919 * (b2 + 1)) * 48271 % 2147483647 / 3 + 104729 * (b2 + 1)) 69621 := mulB (by omega) (by omega) (by omega) (by omega)
  have hg := fun x => get_set ha x
  have m0 : 0 ≤ b0 % s ∧ b0 % s < s := ⟨Int.emod_nonneg _ (by omega), Int.emod_lt_of_pos _ hs⟩
  have q0 : 0 ≤ b0 / s ∧ b0 / s ≤ b0 := ⟨Int.ediv_nonneg h00 (by omega), Int.ediv_le_self _ h00⟩
  generalize hM : ((b1 + 7919 * (b2 + 1)) * 48271 % 2147483647 / 3 + 104729 * (b2 + 1)) * 69621 % 2147483629 / 7 = M
  have m1 : 0 ≤ M % s ∧ M % s < s := ⟨Int.emod_nonneg _ (by omega), Int.emod_lt_of_pos _ hs⟩
  by_cases q : 10 ^ 18 ≤ b1 ∧ 0 < b0
  · have q1 : (1000000000000000000 : Int) ≤ b1 := q.1
    refine ⟨(b0 % s).toNat, .lst [.int (b0 / s), .int b1, .int (b2 + 1)], ?_, by omega, b0 / s, b1, b2 + 1, rfl, by omega, by omega, by omega, by omega⟩
    have e : c__law_take [.ref a, .int s] h = gc h (.ok (.int (b0 % s)) (h.set a (.lst [.int (b0 / s), .int b1, .int (b2 + 1)]))) := by
      unfold c__law_take fsem
      simp [m__law_take, ha, hg, oMul_, oDiv_, oMod_, hd, c1, c2, c3, c4, hs, q1, q.2]
    rw [e, gc_set rfl rfl, Int.toNat_of_nonneg m0.1]
  · refine ⟨(M % s).toNat, .lst [.int b0, .int b1, .int (b2 + 1)], ?_, by omega, b0, b1, b2 + 1, rfl, by omega, by omega, by omega, by omega⟩
    have e : c__law_take [.ref a, .int s] h = gc h (.ok (.int (M % s)) (h.set a (.lst [.int b0, .int b1, .int (b2 + 1)]))) := by
      unfold c__law_take fsem
      by_cases q1 : (1000000000000000000 : Int) ≤ b1
      · have q2 : ¬ 0 < b0 := fun z => q ⟨q1, z⟩
        simp [m__law_take, ha, hg, oMul_, oDiv_, oMod_, hd, c1, c2, c3, c4, hs, q1, q2, hM]
      · simp [m__law_take, ha, hg, oMul_, oDiv_, oMod_, hd, c1, c2, c3, c4, hs, q1, hM]
    rw [e, gc_set rfl rfl, Int.toNat_of_nonneg m1.1]

theorem cell_spec {h : AH} {ns : List Int} (hl : ns.length ≤ 63) {k : Nat} (hk : k ≤ 100) : ∃ v : Int, c__law_cell [.rol (ns.map D.int), dN k] h = .ok (.int v) h ∧ 0 ≤ v ∧ v < 10 ^ 60 := by
  have ht : cutD (ns.map D.int) none (some 63) = ns.map D.int := by
    rw [show (63 : Int) = ((63 : Nat) : Int) from rfl, cutD_to, List.take_of_length_le (by simpa using hl)]
  have ha : (h ++ [AO.lst (ns.map D.int)])[h.length]? = some (.lst (ns.map D.int)) := by simp
  by_cases q : k < ns.length
  · refine ⟨ns[k] % 10 ^ 60, ?_, Int.emod_nonneg _ (by decide), Int.emod_lt_of_pos _ (by decide)⟩
    have ei : ∀ h, ixD (ns.map D.int) (k : Int) h = .ok (.int ns[k]) h := fun h => ixD_map (List.getElem?_eq_getElem q)
    have e : c__law_cell [.rol (ns.map D.int), dN k] h = gc h (.ok (.int (ns[k] % 10 ^ 60)) (h ++ [.lst (ns.map D.int)])) := by
      unfold c__law_cell fsem
      simp [m__law_cell, ht, q, ei, oMod_]
    rw [e, gc_app rfl]
  · have c1 : CMulX (ns.sum % 1000003) 7919 := mulB (by omega) (by omega) (by omega) (by omega)
    have c2 : CMulX 104729 (k : Int) := mulB (by omega) (by omega) (by omega) (by omega)
    refine ⟨(ns.sum % 1000003 * 7919 + 104729 * k) % 10 ^ 15, ?_, Int.emod_nonneg _ (by decide), Int.lt_trans (Int.emod_lt_of_pos _ (by decide)) (by decide)⟩
    have e : c__law_cell [.rol (ns.map D.int), dN k] h = gc h (.ok (.int ((ns.sum % 1000003 * 7919 + 104729 * k) % 10 ^ 15)) (h ++ [.lst (ns.map D.int)])) := by
      unfold c__law_cell fsem
      simp [m__law_cell, ht, q, oMod_, oMul_, c1, c2]
    rw [e, gc_app rfl]
theorem bag_spec {h : AH} {ns : List Int} (hl : ns.length ≤ 63) {k : Nat} (hk : k ≤ 100) : ∃ o, c__law_bag [.rol (ns.map D.int), dN k] h = .ok (.ref h.length) (h ++ [o]) ∧ Bag 6400 o := by
  obtain ⟨v, ev, h0, h1⟩ := cell_spec (h := h) hl hk
  refine ⟨.lst [.int v, .int v, .int (64 * k)], ?_, v, v, 64 * k, rfl, ⟨h0, h1⟩, ⟨h0, h1⟩, by omega, by omega⟩
  have c2 : CMulX 64 (k : Int) := mulB (by omega) (by omega) (by omega) (by omega)
  have e : c__law_bag [.rol (ns.map D.int), dN k] h = gc h (.ok (.ref (h.length + 0)) (h ++ [.lst [.int v, .int v, .int (64 * k)]])) := by
    unfold c__law_bag fsem
    simp [m__law_bag, ev, oMul_, c2]
  rw [e, gc_new (i := 0) rfl rfl]
/-- a perm of n points -/
structure IsP (n : Nat) (p : List Nat) : Prop where
  len : p.length = n
  lt : ∀ i, i < n → p.getD i 0 < n
  inj : ∀ i j, i < n → j < n → p.getD i 0 = p.getD j 0 → i = j
theorem IsP.swap {n : Nat} {p : List Nat} (P : IsP n p) {a b : Nat} (ha : a < n) (hb : b < n) : IsP n ((p.set a (p.getD b 0)).set b (p.getD a 0)) := by
  have la : a < p.length := by rw [P.len]; exact ha
  have lb : b < (p.set a (p.getD b 0)).length := by rw [List.length_set, P.len]; exact hb
  have e : ∀ j, ((p.set a (p.getD b 0)).set b (p.getD a 0)).getD j 0 = p.getD (if b = j then a else if a = j then b else j) 0 := fun j => by
    rw [getD_set lb, getD_set la]
    split
    · rfl
    · split <;> rfl
  have l : ∀ j, j < n → (if b = j then a else if a = j then b else j) < n := fun j hj => by
    split
    · exact ha
    · split
      · exact hb
      · exact hj
  refine ⟨by simp [P.len], fun i hi => by rw [e]; exact P.lt _ (l i hi), fun i j hi hj h => ?_⟩
  rw [e, e] at h
  have q := P.inj _ _ (l i hi) (l j hj) h
  split at q <;> split at q <;> first
    | omega
    | (split at q <;> first
      | omega
      | (split at q <;> omega))
theorem IsP.range (n : Nat) : IsP n (List.range n) := by
  have e : ∀ i, i < n → (List.range n).getD i 0 = i := fun i hi => by simp [hi]
  exact ⟨by simp, fun i hi => by rw [e i hi]; exact hi, fun i j hi hj h => by rw [e i hi, e j hj] at h; exact h⟩
theorem shuffled_spec {h : AH} {a N : Nat} {o : AO} (ha : h[a]? = some o) (hb : Bag N o) {n : Nat} (h1 : 1 ≤ n) (hn : n ≤ 1000) (hN : N + n ≤ 1000000000) :
    ∃ (p : List Nat) (o' : AO), c__law_shuffled [.ref a, dN n] h = .ok (.ref h.length) (h.set a o' ++ [.lst (p.map dN)]) ∧ IsP n p ∧ Bag (N + n) o' := by
  have hal := (List.getElem?_eq_some_iff.mp ha).1
  obtain ⟨e', h', q, x3, x4, x5, p, o', rfl, rfl, P, B⟩ := loopN (k := 3) (b := lb__law_shuffled_1)
    (fun i e h' => ∃ x3 x4 x5 p o', e = [some (.ref a), some (dN n), some (.ref h.length), x3, x4, x5] ∧ h' = h.set a o' ++ [.lst (p.map dN)] ∧ IsP n p ∧ Bag (N + i) o')
    (n - 1) (e := [some (.ref a), some (dN n), some (.ref h.length), none, none, none]) (h := h ++ [.lst ((List.range n).map dN)])
    ⟨none, none, none, List.range n, o, rfl, by rw [set_self ha], IsP.range n, hb⟩ (by
      rintro i e h' hi ⟨x3, x4, x5, p, o', rfl, rfl, P, B⟩
      have ha' : (h.set a o' ++ [AO.lst (p.map dN)])[a]? = some o' := app_get_l (get_set ha o')
      obtain ⟨d, o2, ed, hd, B2⟩ := take_spec (s := (n : Int) - (i : Nat)) ha' B (by omega) (by omega) (by omega)
      have hio : i + d < n := by omega
      refine ⟨_, _, ?_, some (dN i), some (dN (i + d)), some (dN (p.getD i 0)), (p.set i (p.getD (i + d) 0)).set (i + d) (p.getD i 0), o2, rfl, rfl, P.swap (by omega) hio, B2⟩
      have e1 : (h.set a o' ++ [AO.lst (p.map dN)]).set a o2 = h.set a o2 ++ [AO.lst (p.map dN)] := by rw [app_set_l (by simpa using hal), List.set_set]
      rw [e1] at ed
      have lp := P.len
      have x1 : ∀ h, ixD (p.map dN) (i : Int) h = .ok (dN (p.getD i 0)) h := fun h => ixD_N (by omega)
      have x2 : ∀ h, ixD (p.map dN) ((i : Int) + (d : Int)) h = .ok (dN (p.getD (i + d) 0)) h := fun h => ixD_N (i := i + d) (by omega)
      have y1 : ∀ (ds : List D) r v h, ds.length = n → putO (some (.lst ds)) r (i : Int) v h = some (h.set r (.lst (ds.set i v))) := fun ds r v h hl => putO_nat (by omega)
      have y2 : ∀ (ds : List D) r v h, ds.length = n → putO (some (.lst ds)) r ((i : Int) + (d : Int)) v h = some (h.set r (.lst (ds.set (i + d) v))) := fun ds r v h hl => putO_nat (i := i + d) (by omega)
      simp [lb__law_shuffled_1, ed, x1, x2, y1, y2, lp, dN])
  refine ⟨p, o', ?_, P, B.mono (by omega)⟩
  have r1 : RgB ((n - 1 : Nat) : Int) := rgB_nat (by omega)
  have r2 : RgOk 0 (n : Int) := rgOk_nat (by omega)
  have r3 : (n : Int) - 1 = ((n - 1 : Nat) : Int) := by omega
  have e : c__law_shuffled [.ref a, dN n] h = gc h (.ok (.ref (h.length + 0)) (h.set a o' ++ [.lst (p.map dN)])) := by
    unfold c__law_shuffled fsem
    simp [m__law_shuffled, r1, r2, r3, rg_zero, q]
  rw [e, gc_set_new B.flat (i := 0) rfl (by simp)]
end Law

set_option maxHeartbeats 1000000
namespace Law
open PySem Rf L2
/-- labels: each entry the least of its class -/
def Canon (L : List Nat) : Prop := ∀ j, j < L.length → L.getD j 0 ≤ j ∧ L.getD (L.getD j 0) 0 = L.getD j 0
theorem getD_app {p : List Nat} {j v : Nat} : (p ++ [v]).getD j 0 = if j = p.length then v else p.getD j 0 := by
  simp only [List.getD_eq_getElem?_getD]
  by_cases h : j < p.length
  · rw [List.getElem?_append_left h, if_neg (by omega)]
  · by_cases h2 : j = p.length
    · subst h2; simp
    · rw [if_neg h2, List.getElem?_append_right (by omega), List.getElem?_eq_none (by simp; omega), List.getElem?_eq_none (by omega)]
theorem Canon.push {L : List Nat} (c : Canon L) {x : Nat} (hx : x = L.length ∨ (x < L.length ∧ L.getD x 0 = x)) : Canon (L ++ [x]) := by
  intro j hj
  rw [List.length_append, List.length_singleton] at hj
  rw [getD_app]
  by_cases h : j = L.length
  · rw [if_pos h, getD_app]
    rcases hx with e | ⟨l, e⟩
    · rw [if_pos e]; omega
    · rw [if_neg (by omega), e]; omega
  · rw [if_neg h]
    have := c j (by omega)
    rw [getD_app, if_neg (by omega)]
    exact this
theorem Canon.pushD {L : List Nat} (c : Canon L) {x : Nat} (hx : x ≤ L.length) : Canon (L ++ [if x < L.length then L.getD x 0 else x]) := by
  by_cases h : x < L.length
  · rw [if_pos h]
    have := c x h
    exact c.push (.inr ⟨by omega, this.2⟩)
  · rw [if_neg h]
    exact c.push (.inl (by omega))
theorem partition_spec {h : AH} {a N : Nat} {o : AO} (ha : h[a]? = some o) (hb : Bag N o) {n : Nat} (h1 : 1 ≤ n) (hn : n ≤ 1000) (hN : N + 3000 ≤ 1000000000) :
    ∃ (p : List Nat) (o' : AO), c__law_partition [.ref a, dN n] h = .ok (.tup (p.map dN)) (h.set a o') ∧ p.length = n ∧ Canon p ∧ Bag (N + 3000) o' := by
  have hal := (List.getElem?_eq_some_iff.mp ha).1
  obtain ⟨kind, o1, e1, hk, B1⟩ := take_spec (s := 4) ha hb (by omega) (by omega) (by omega)
  have ha1 := get_set ha o1
  obtain ⟨z, o2, e2, hz, B2⟩ := take_spec (s := (n : Int)) ha1 B1 (by omega) (by omega) (by omega)
  rw [List.set_set] at e2
  have hs : ∀ (x : AO), (h.set a o2).set a x = h.set a x := fun x => by rw [List.set_set]
  obtain ⟨e', h', q, x5, x6, p, o', rfl, rfl, lp, C, B⟩ := loopN (k := 5) (b := lb__law_partition_1)
    (fun i e h' => ∃ x5 x6 p o', e = [some (.ref a), some (dN n), some (dN kind), some (dN (1 + z)), some (.ref h.length), x5, x6] ∧ h' = h.set a o' ++ [.lst (p.map dN)] ∧ p.length = i ∧ Canon p ∧ Bag (N + 2 + 2 * i) o')
    n (e := [some (.ref a), some (dN n), some (dN kind), some (dN (1 + z)), some (.ref h.length), none, none]) (h := h.set a o2 ++ [.lst []])
    ⟨none, none, [], o2, rfl, rfl, rfl, fun j hj => absurd hj (by simp), B2.mono (by omega)⟩ (by
      rintro i e h' hi ⟨x5, x6, p, o', rfl, rfl, lp, C, B⟩
      have ha' : (h.set a o' ++ [AO.lst (p.map dN)])[a]? = some o' := app_get_l (get_set ha o')
      obtain ⟨d, o3, ed, hd, B3⟩ := take_spec (s := (i : Int) + 1) ha' B (by omega) (by omega) (by omega)
      have e3 : ∀ x, (h.set a o' ++ [AO.lst (p.map dN)]).set a x = h.set a x ++ [AO.lst (p.map dN)] := fun x => by rw [app_set_l (by simpa using hal), List.set_set]
      rw [e3] at ed
      have hgo : ∀ (x0 : Nat), x0 ≤ i → ∃ (v : Nat), v = (if x0 < i then p.getD x0 0 else x0) ∧ Canon (p ++ [v]) := fun x0 hx => ⟨_, rfl, by rw [← lp]; exact C.pushD (by omega)⟩
      have x1 : ∀ (x0 : Nat) h, x0 < i → ixD (p.map dN) (x0 : Int) h = .ok (dN (p.getD x0 0)) h := fun x0 h hx => ixD_N (by omega)
      have ap : ∀ r v h, appO (some (.lst (p.map dN))) r v h = .ok .non (h.set r (.lst (p.map dN ++ [v]))) := fun r v h => appO_lst (by rw [List.length_map, sizeLine_eq]; omega)
      have fin : ∀ (x0 : Nat) (o4 : AO), x0 ≤ i → Bag (N + 2 + 2 * (i + 1)) o4 →
          lb__law_partition_1 [some (.ref a), some (dN n), some (dN kind), some (dN (1 + z)), some (.ref h.length), some (dN i), x6] (h.set a o' ++ [AO.lst (p.map dN)]) =
            .nx [some (.ref a), some (dN n), some (dN kind), some (dN (1 + z)), some (.ref h.length), some (dN i), some (dN (if x0 < i then p.getD x0 0 else x0))] (h.set a o4 ++ [AO.lst ((p ++ [if x0 < i then p.getD x0 0 else x0]).map dN)]) →
          ∃ e' h', lb__law_partition_1 ([some (.ref a), some (dN n), some (dN kind), some (dN (1 + z)), some (.ref h.length), x5, x6].set 5 (some (dN i))) (h.set a o' ++ [AO.lst (p.map dN)]) = .nx e' h' ∧
            ∃ x5 x6 p o', e' = [some (.ref a), some (dN n), some (dN kind), some (dN (1 + z)), some (.ref h.length), x5, x6] ∧ h' = h.set a o' ++ [.lst (p.map dN)] ∧ p.length = i + 1 ∧ Canon p ∧ Bag (N + 2 + 2 * (i + 1)) o' := by
        intro x0 o4 hx B4 hq
        refine ⟨_, _, hq, some (dN i), _, _, o4, rfl, rfl, by simp [lp], ?_, B4⟩
        rw [← lp]
        exact C.pushD (by omega)
      have hk4 : kind = 0 ∨ kind = 1 ∨ kind = 2 ∨ kind = 3 := by omega
      rcases hk4 with rfl | rfl | rfl | rfl
      · refine fin d o3 (by omega) (B3.mono (by omega)) ?_
        by_cases c : d < i
        · simp [lb__law_partition_1, ed, x1 d _ c, c, ap, dN]
        · simp [lb__law_partition_1, ed, c, ap, dN]
      · have ha3 : (h.set a o3 ++ [AO.lst (p.map dN)])[a]? = some o3 := app_get_l (get_set ha o3)
        obtain ⟨d2, o4, ed2, hd2, B4⟩ := take_spec (s := 2) ha3 B3 (by omega) (by omega) (by omega)
        have e4 : (h.set a o3 ++ [AO.lst (p.map dN)]).set a o4 = h.set a o4 ++ [AO.lst (p.map dN)] := by rw [app_set_l (by simpa using hal), List.set_set]
        rw [e4] at ed2
        have hd2' : d2 = 0 ∨ d2 = 1 := by omega
        rcases hd2' with rfl | rfl
        · refine fin d o4 (by omega) (B4.mono (by omega)) ?_
          by_cases c : d < i
          · simp [lb__law_partition_1, ed, ed2, x1 d _ c, c, ap, dN]
          · simp [lb__law_partition_1, ed, ed2, c, ap, dN]
        · refine fin i o4 (by omega) (B4.mono (by omega)) ?_
          simp [lb__law_partition_1, ed, ed2, ap, dN]
      · have m0 : ((i % (1 + z) : Nat) : Int) = (i : Int) % (1 + (z : Int)) := by rw [Int.natCast_emod]; rfl
        have m1 := Nat.mod_le i (1 + z)
        obtain ⟨X, hX⟩ : ∃ X, X = i - i % (1 + z) := ⟨_, rfl⟩
        have m2 : (i : Int) - (i : Int) % (1 + (z : Int)) = (X : Int) := by omega
        have m3 : (0 : Int) < 1 + (z : Int) := by omega
        refine fin X o3 (by omega) (B3.mono (by omega)) ?_
        by_cases c : X < i
        · simp [lb__law_partition_1, ed, oMod_, m3, m2, x1 _ _ c, c, ap, dN]
        · simp [lb__law_partition_1, ed, oMod_, m3, m2, c, ap, dN]
      · have m0 : ((i % (1 + z) : Nat) : Int) = (i : Int) % (1 + (z : Int)) := by rw [Int.natCast_emod]; rfl
        have m1 := Nat.mod_le i (1 + z)
        obtain ⟨X, hX⟩ : ∃ X, X = i % (1 + z) := ⟨_, rfl⟩
        have m2 : (i : Int) % (1 + (z : Int)) = (X : Int) := by omega
        have m3 : (0 : Int) < 1 + (z : Int) := by omega
        refine fin X o3 (by omega) (B3.mono (by omega)) ?_
        by_cases c : X < i
        · simp [lb__law_partition_1, ed, oMod_, m3, m2, x1 _ _ c, c, ap, dN]
        · simp [lb__law_partition_1, ed, oMod_, m3, m2, c, ap, dN])
  refine ⟨p, o', ?_, lp, C, B.mono (by omega)⟩
  have r1 : RgB (n : Int) := rgB_nat (by omega)
  have e : c__law_partition [.ref a, dN n] h = gc h (.ok (.tup (p.map dN)) (h.set a o' ++ [.lst (p.map dN)])) := by
    unfold c__law_partition fsem
    simp [m__law_partition, e1, e2, r1, rg_zero]
    simp [dN] at q
    simp [q, dN]
  rw [e, gc_set_app (by simp) B.flat]
end Law

set_option maxHeartbeats 1000000
namespace Law
open PySem Rf L2
/-! ### classes -/
def clsOf (L : List Nat) (x : Nat) : List Nat := (List.range L.length).filter fun k => L.getD k 0 == x
def clsTo (L : List Nat) (i : Nat) : List (List Nat) := ((List.range i).filter fun x => L.getD x 0 == x).map (clsOf L)
def cls (L : List Nat) : List (List Nat) := clsTo L L.length
def dC (c : List Nat) : D := .tup (c.map dN)
theorem mem_clsOf {L : List Nat} {x k : Nat} : k ∈ clsOf L x ↔ k < L.length ∧ L.getD k 0 = x := by
  unfold clsOf
  rw [List.mem_filter, List.mem_range, beq_iff_eq]
theorem clsTo_succ {L : List Nat} {i : Nat} : clsTo L (i + 1) = if L.getD i 0 = i then clsTo L i ++ [clsOf L i] else clsTo L i := by
  unfold clsTo
  rw [List.range_succ, List.filter_append, List.map_append]
  by_cases h : L.getD i 0 = i
  · rw [if_pos h, List.filter_cons, if_pos (by rw [h]; simp)]; rfl
  · rw [if_neg h, List.filter_cons, if_neg (by simpa using h)]; simp
theorem clsTo_le {L : List Nat} {i : Nat} : (clsTo L i).length ≤ i := by
  unfold clsTo
  rw [List.length_map]
  exact Nat.le_trans (List.length_filter_le _ _) (by simp)
theorem lc_classes {L : List Nat} (hL : L.length ≤ 1000) {x : Nat} {e1 e3 : Option D} {h : AH} : lc__law_classes_1 [some (.tup (L.map dN)), e1, some (dN x), e3] h = .ok (.ref h.length) (h ++ [.lst ((clsOf L x).map dN)]) := by
  unfold lc__law_classes_1
  rw [eLc_pure (φ := dN) (List.range L.length) (fun k => L.getD k 0 == x) dN (h1 := h) (iRange1_nat (by simp) (by omega)) (by rw [List.length_range, sizeLine_eq]; omega)]
  · rfl
  · intro k hk
    rw [List.mem_range] at hk
    have x1 : ∀ h, ixD (L.map dN) (k : Int) h = .ok (dN (L.getD k 0)) h := fun h => ixD_N hk
    simp [wipeE, x1, dN, -List.getD_eq_getElem?_getD]
  · intro k hk _
    simp [wipeE]
theorem classes_spec {L : List Nat} (hL : L.length ≤ 1000) {h : AH} : c__law_classes [.tup (L.map dN)] h = .ok (.ref h.length) (h ++ [.lst ((cls L).map dC)]) := by
  obtain ⟨e', h', q, x2, x3, g, rfl, rfl⟩ := loopN (k := 2) (b := lb__law_classes_1)
    (fun i e h' => ∃ x2 x3 g, e = [some (.tup (L.map dN)), some (.ref h.length), x2, x3] ∧ h' = h ++ (.lst ((clsTo L i).map dC) :: g))
    L.length (e := [some (.tup (L.map dN)), some (.ref h.length), none, none]) (h := h ++ [.lst []])
    ⟨none, none, [], rfl, rfl⟩ (by
      rintro i e h' hi ⟨x2, x3, g, rfl, rfl⟩
      have x1 : ∀ h, ixD (L.map dN) (i : Int) h = .ok (dN (L.getD i 0)) h := fun h => ixD_N hi
      by_cases c : L.getD i 0 = i
      · refine ⟨[some (.tup (L.map dN)), some (.ref h.length), some (dN i), x3], h ++ (.lst ((clsTo L (i + 1)).map dC) :: (g ++ [.lst ((clsOf L i).map dN)])), ?_, some (dN i), x3, _, rfl, rfl⟩
        have ap : ∀ r v h, appO (some (.lst ((clsTo L i).map dC))) r v h = .ok .non (h.set r (.lst ((clsTo L i).map dC ++ [v]))) := fun r v h => appO_lst (by have := clsTo_le (L := L) (i := i); rw [List.length_map, sizeLine_eq]; omega)
        have lc := fun h => lc_classes hL (x := i) (e1 := some (.ref h.length)) (e3 := x3) (h := h)
        rw [clsTo_succ, if_pos c]
        simp [lb__law_classes_1, x1, c, lc_classes hL, ap, dC, -List.getD_eq_getElem?_getD]
      · refine ⟨[some (.tup (L.map dN)), some (.ref h.length), some (dN i), x3], h ++ (.lst ((clsTo L (i + 1)).map dC) :: g), ?_, some (dN i), x3, _, rfl, rfl⟩
        rw [clsTo_succ, if_neg c]
        simp [lb__law_classes_1, x1, c, -List.getD_eq_getElem?_getD])
  have r1 : RgB (L.length : Int) := rgB_nat (by omega)
  have e : c__law_classes [.tup (L.map dN)] h = gc h (.ok (.ref (h.length + 0)) (h ++ (.lst ((cls L).map dC) :: g))) := by
    unfold c__law_classes fsem
    simp [m__law_classes, r1, rg_zero, q, cls]
  rw [e, gc_new (i := 0) (o := .lst ((cls L).map dC)) rfl (pures_map fun c _ => by simp [dC])]
end Law

set_option maxHeartbeats 1000000
namespace Law
open PySem Rf L2
structure CS (n : Nat) (cs : List (List Nat)) : Prop where
  lt : ∀ t k, t < cs.length → k < (cs.getD t []).length → (cs.getD t []).getD k 0 < n
  inj : ∀ t k t' k', t < cs.length → k < (cs.getD t []).length → t' < cs.length → k' < (cs.getD t' []).length → (cs.getD t []).getD k 0 = (cs.getD t' []).getD k' 0 → t = t' ∧ k = k'
  cov : ∀ i, i < n → ∃ t k, t < cs.length ∧ k < (cs.getD t []).length ∧ (cs.getD t []).getD k 0 = i
  pos : ∀ t, t < cs.length → 1 ≤ (cs.getD t []).length ∧ (cs.getD t []).length ≤ n
  le : cs.length ≤ n
theorem getD_get {α : Type} {l : List α} {i : Nat} {d : α} (h : i < l.length) : l.getD i d = l[i] := by simp [h]
theorem getD_mem {α : Type} {l : List α} {i : Nat} {d : α} (h : i < l.length) : l.getD i d ∈ l := by rw [getD_get h]; exact List.getElem_mem h
theorem nodup_getD {α : Type} {l : List α} (nd : l.Nodup) {i j : Nat} {d : α} (hi : i < l.length) (hj : j < l.length) (h : l.getD i d = l.getD j d) : i = j := by
  rw [getD_get hi, getD_get hj] at h
  exact (List.getElem_inj nd).mp h
theorem mem_getD {α : Type} {l : List α} {x d : α} (h : x ∈ l) : ∃ i, i < l.length ∧ l.getD i d = x := by
  obtain ⟨i, hi, e⟩ := List.getElem_of_mem h
  exact ⟨i, hi, by rw [getD_get hi, e]⟩
theorem map_getD {α β : Type} {f : α → β} {l : List α} {i : Nat} {d : α} {e : β} (h : i < l.length) : (l.map f).getD i e = f (l.getD i d) := by
  rw [getD_get (by simpa using h), getD_get h, List.getElem_map]
theorem cs_cls {L : List Nat} (C : Canon L) : CS L.length (cls L) := by
  let rs := (List.range L.length).filter fun x => L.getD x 0 == x
  have e0 : cls L = rs.map (clsOf L) := rfl
  have el : (cls L).length = rs.length := by rw [e0, List.length_map]
  have nr : rs.Nodup := List.Pairwise.filter _ List.nodup_range
  have nc : ∀ x, (clsOf L x).Nodup := fun x => List.Pairwise.filter _ List.nodup_range
  have mr : ∀ x, x ∈ rs ↔ x < L.length ∧ L.getD x 0 = x := fun x => by rw [List.mem_filter, List.mem_range, beq_iff_eq]
  have eg : ∀ t, t < (cls L).length → (cls L).getD t [] = clsOf L (rs.getD t 0) := fun t ht => by rw [e0]; exact map_getD (by rw [← el]; exact ht)
  refine ⟨fun t k ht hk => ?_, fun t k t' k' ht hk ht' hk' h => ?_, fun i hi => ?_, fun t ht => ?_, ?_⟩
  · rw [eg t ht] at hk ⊢
    exact (mem_clsOf.mp (getD_mem hk)).1
  · rw [eg t ht] at hk h
    rw [eg t' ht'] at hk' h
    have m1 := mem_clsOf.mp (getD_mem (d := 0) hk)
    have m2 := mem_clsOf.mp (getD_mem (d := 0) hk')
    rw [h, m2.2] at m1
    have et : t = t' := nodup_getD nr (by rw [← el]; exact ht) (by rw [← el]; exact ht') m1.2.symm
    subst et
    exact ⟨rfl, nodup_getD (nc _) hk hk' h⟩
  · have ci := C i hi
    have hm : L.getD i 0 ∈ rs := (mr _).mpr ⟨by omega, ci.2⟩
    obtain ⟨t, ht, et⟩ := mem_getD (d := 0) hm
    have hm2 : i ∈ clsOf L (rs.getD t 0) := mem_clsOf.mpr ⟨hi, et.symm⟩
    obtain ⟨k, hk, ek⟩ := mem_getD (d := 0) hm2
    have ht' : t < (cls L).length := by rw [el]; exact ht
    exact ⟨t, k, ht', by rw [eg t ht']; exact hk, by rw [eg t ht']; exact ek⟩
  · rw [eg t ht]
    have hm := (mr _).mp (getD_mem (d := 0) (show t < rs.length by rw [← el]; exact ht))
    have : rs.getD t 0 ∈ clsOf L (rs.getD t 0) := mem_clsOf.mpr ⟨hm.1, hm.2⟩
    refine ⟨List.length_pos_of_mem this, ?_⟩
    unfold clsOf
    exact Nat.le_trans (List.length_filter_le _ _) (by simp)
  · exact clsTo_le
theorem sub_length : ∀ {l1 l2 : List Nat}, l1.Nodup → (∀ x ∈ l1, x ∈ l2) → l1.length ≤ l2.length
  | [], _, _, _ => Nat.zero_le _
  | x :: l, l2, nd, h => by
    have hx := h x List.mem_cons_self
    have ih := sub_length (l1 := l) (l2 := l2.erase x) (List.nodup_cons.mp nd).2 fun y hy => by
      have : y ≠ x := fun e => (List.nodup_cons.mp nd).1 (e ▸ hy)
      exact (List.mem_erase_of_ne this).mpr (h y (List.mem_cons_of_mem _ hy))
    rw [List.length_erase_of_mem hx] at ih
    have := List.length_pos_of_mem hx
    rw [List.length_cons]; omega
/-- which classes are still free -/
def freeOf (cs : List (List Nat)) (used : List Nat) (s : Nat) : List Nat := (List.range cs.length).filter fun x => !(used.contains x) && (cs.getD x []).length == s
theorem free_pos {cs : List (List Nat)} {used : List Nat} {j : Nat} (hj : j < cs.length) (hu : used.length = j) (h : ∀ t, t < j → (cs.getD (used.getD t 0) []).length = (cs.getD t []).length) : 1 ≤ (freeOf cs used (cs.getD j []).length).length := by
  refine Nat.pos_of_ne_zero fun e => ?_
  have emp : freeOf cs used (cs.getD j []).length = [] := List.eq_nil_of_length_eq_zero e
  have all : ∀ x, x < cs.length → (cs.getD x []).length = (cs.getD j []).length → x ∈ used := fun x hx hs => by
    refine Classical.byContradiction fun hn => ?_
    have : x ∈ freeOf cs used (cs.getD j []).length := by
      unfold freeOf
      rw [List.mem_filter, List.mem_range]
      refine ⟨hx, ?_⟩
      rw [hs]
      simp [hn]
    rw [emp] at this
    cases this
  let Y := (List.range j).filter fun t => (cs.getD t []).length == (cs.getD j []).length
  let X := (List.range cs.length).filter fun t => (cs.getD t []).length == (cs.getD j []).length
  have nX : X.Nodup := List.Pairwise.filter _ List.nodup_range
  have nY : (j :: Y).Nodup := List.nodup_cons.mpr ⟨fun hm => by
    have := (List.mem_filter.mp hm).1
    rw [List.mem_range] at this; omega, List.Pairwise.filter _ List.nodup_range⟩
  have h1 : (j :: Y).length ≤ X.length := sub_length nY fun x hx => by
    rcases List.mem_cons.mp hx with rfl | hx
    · exact List.mem_filter.mpr ⟨List.mem_range.mpr hj, by simp⟩
    · obtain ⟨a, b⟩ := List.mem_filter.mp hx
      rw [List.mem_range] at a
      exact List.mem_filter.mpr ⟨List.mem_range.mpr (by omega), b⟩
  have h2 : X.length ≤ (Y.map fun t => used.getD t 0).length := sub_length nX fun x hx => by
    obtain ⟨a, b⟩ := List.mem_filter.mp hx
    rw [List.mem_range] at a
    rw [beq_iff_eq] at b
    obtain ⟨t, ht, et⟩ := mem_getD (d := 0) (all x a b)
    refine List.mem_map.mpr ⟨t, List.mem_filter.mpr ⟨List.mem_range.mpr (by omega), ?_⟩, et⟩
    rw [beq_iff_eq, ← h t (by omega), et, b]
  rw [List.length_map, List.length_cons] at *
  omega
theorem mem_free {cs : List (List Nat)} {used : List Nat} {s d : Nat} (hd : d < (freeOf cs used s).length) : (freeOf cs used s).getD d 0 < cs.length ∧ (freeOf cs used s).getD d 0 ∉ used ∧ (cs.getD ((freeOf cs used s).getD d 0) []).length = s := by
  have := getD_mem (d := 0) hd
  generalize (freeOf cs used s).getD d 0 = y at this
  unfold freeOf at this
  rw [List.mem_filter, List.mem_range] at this
  obtain ⟨a, b⟩ := this
  rw [Bool.and_eq_true, beq_iff_eq] at b
  exact ⟨a, by simpa using b.1, b.2⟩
/-- what keeping has laid after the first j classes -/
structure KP (cs : List (List Nat)) (n j : Nat) (used img : List Nat) : Prop where
  ul : used.length = j
  un : used.Nodup
  us : ∀ t, t < j → used.getD t 0 < cs.length ∧ (cs.getD (used.getD t 0) []).length = (cs.getD t []).length
  il : img.length = n
  im : ∀ t, t < j → ∃ q, IsP (cs.getD t []).length q ∧ ∀ k, k < (cs.getD t []).length → img.getD ((cs.getD t []).getD k 0) 0 = (cs.getD (used.getD t 0) []).getD (q.getD k 0) 0
theorem KP.isP {cs : List (List Nat)} {n : Nat} {used img : List Nat} (S : CS n cs) (K : KP cs n cs.length used img) : IsP n img := by
  have at_ : ∀ i, i < n → ∃ t k q, t < cs.length ∧ k < (cs.getD t []).length ∧ (cs.getD t []).getD k 0 = i ∧ IsP (cs.getD t []).length q ∧ q.getD k 0 < (cs.getD (used.getD t 0) []).length ∧ used.getD t 0 < cs.length ∧
      img.getD i 0 = (cs.getD (used.getD t 0) []).getD (q.getD k 0) 0 ∧ ∀ k', k' < (cs.getD t []).length → img.getD ((cs.getD t []).getD k' 0) 0 = (cs.getD (used.getD t 0) []).getD (q.getD k' 0) 0 := fun i hi => by
    obtain ⟨t, k, ht, hk, e⟩ := S.cov i hi
    obtain ⟨q, Pq, hq⟩ := K.im t ht
    obtain ⟨u1, u2⟩ := K.us t ht
    exact ⟨t, k, q, ht, hk, e, Pq, by rw [u2]; exact Pq.lt k hk, u1, by rw [← e]; exact hq k hk, hq⟩
  refine ⟨K.il, fun i hi => ?_, fun i i' hi hi' h => ?_⟩
  · obtain ⟨t, k, q, ht, hk, e, Pq, hb, hu, hi2, _⟩ := at_ i hi
    rw [hi2]
    exact S.lt _ _ hu hb
  · obtain ⟨t, k, q, ht, hk, e, Pq, hb, hu, hi2, hq⟩ := at_ i hi
    obtain ⟨t', k', q', ht', hk', e', Pq', hb', hu', hi2', hq'⟩ := at_ i' hi'
    rw [hi2, hi2'] at h
    obtain ⟨a, b⟩ := S.inj _ _ _ _ hu hb hu' hb' h
    have et : t = t' := nodup_getD K.un (by rw [K.ul]; exact ht) (by rw [K.ul]; exact ht') a
    subst et
    -- the same order: both come from img
    have h3 := hq k' hk'
    rw [e', hi2'] at h3
    rw [← b] at h3
    obtain ⟨_, h4⟩ := S.inj _ _ _ _ hu hb hu (by rw [(K.us t ht).2]; exact Pq.lt k' hk') h3
    have := Pq.inj k k' hk hk' h4
    subst this
    rw [← e, ← e']
end Law

set_option maxHeartbeats 1000000
namespace Law
open PySem Rf L2
theorem mapM_toP {us : List Nat} {h : AH} {k : Nat} : (us.map dN).mapM (D.toP h k) = some (us.map fun u : Nat => PyData.int (u : Int)) := by
  induction us with
  | nil => rfl
  | cons u us ih => rw [List.map_cons, List.mapM_cons, ih]; unfold dN D.toP; cases k <;> rfl
theorem toP_list {us : List Nat} {h : AH} {r : Nat} (hr : h[r]? = some (.lst (us.map dN))) : (D.ref r).toP h 20 = some (.list (us.map fun u : Nat => PyData.int (u : Int))) := by
  unfold D.toP
  rw [hr]
  show ((us.map dN).mapM (D.toP h 19)).map PyData.list = _
  rw [mapM_toP]; rfl
theorem eqv_int {a b : Int} : PyData.eqv (.int a) (.int b) = (a == b) := by simp [PyData.eqv]
theorem any_N (us : List Nat) (k : Nat) : (us.map fun u : Nat => PyData.int (u : Int)).any (fun z => PyData.eqv z (.int (k : Int))) = us.contains k := by
  induction us with
  | nil => rfl
  | cons u us ih =>
    rw [List.map_cons, List.any_cons, List.contains_cons, ih, eqv_int, beq_nat, Bool.beq_comm (a := k)]
theorem notIn_N {us : List Nat} {h : AH} {r k : Nat} (hr : h[r]? = some (.lst (us.map dN))) : oNotIn2 (.int (k : Int)) (.ref r) h = .ok (.bl (!us.contains k)) h := by
  unfold oNotIn2
  have e1 : (D.int (k : Int)).toP h 20 = some (.int k) := rfl
  rw [toP_list hr, e1]
  simp only [any_N]
theorem eqvAll_N : ∀ {us vs : List Nat}, PyData.eqvAll (us.map fun u : Nat => PyData.int (u : Int)) (vs.map fun u : Nat => PyData.int (u : Int)) = decide (us = vs)
  | [], [] => by simp [PyData.eqvAll]
  | [], v :: vs => by simp [PyData.eqvAll]
  | u :: us, [] => by simp [PyData.eqvAll]
  | u :: us, v :: vs => by
    rw [List.map_cons, List.map_cons, PyData.eqvAll, eqvAll_N, eqv_int, beq_nat]
    by_cases h : u = v
    · subst h; simp
    · simp [h]
theorem oEq_L {us vs : List Nat} {h : AH} {r q : Nat} (hr : h[r]? = some (.lst (us.map dN))) (hq : h[q]? = some (.lst (vs.map dN))) : oEq (.ref r) (.ref q) h = .ok (.bl (decide (us = vs))) h := by
  unfold oEq
  rw [toP_list hr, toP_list hq]
  simp only [PyData.eqv, eqvAll_N]
@[simp] theorem oMul_ref_ (r : Nat) (i : Int) (h : AH) : oMul (.ref r) (.int i) h = (match h[r]? with
    | some (.lst xs) => if RepOk xs.length i then .ok (.ref h.length) (h ++ [.lst (List.replicate i.toNat xs).flatten]) else .stuck
    | _ => .stuck) := rfl
theorem repOk_1 {n : Nat} (h : n ≤ 16777216) : RepOk 1 (n : Int) := ⟨by omega, by omega, by rw [sizeLine_eq]; omega⟩
theorem rep_zero (n : Nat) : (List.replicate n [D.int 0]).flatten = (List.replicate n 0).map dN := by
  induction n with
  | zero => rfl
  | succ n ih => rw [List.replicate_succ, List.replicate_succ, List.flatten_cons, ih]; rfl
theorem lc_keeping {cs : List (List Nat)} {used : List Nat} {h : AH} {r2 r4 : Nat} (hc : cs.length ≤ 1000) (h2 : h[r2]? = some (.lst (cs.map dC))) (h4 : h[r4]? = some (.lst (used.map dN)))
    {c : List Nat} {x0 x1 x3 x6 x7 x8 x9 x10 : Option D} : lc__law_keeping_1 [x0, x1, some (.ref r2), x3, some (.ref r4), some (dC c), x6, x7, x8, x9, x10] h = .ok (.ref h.length) (h ++ [.lst ((freeOf cs used c.length).map dN)]) := by
  unfold lc__law_keeping_1
  rw [eLc_pure (φ := dN) (List.range cs.length) (fun x => !(used.contains x) && (cs.getD x []).length == c.length) dN (h1 := h) (iRange1_nat (by simp [h2]) (by omega)) (by rw [List.length_range, sizeLine_eq]; omega)]
  · rfl
  · intro k hk
    rw [List.mem_range] at hk
    have x1 : ∀ h, ixD (cs.map dC) (k : Int) h = .ok (dC (cs.getD k [])) h := fun h => ixD_map (getD_some hk)
    by_cases q : used.contains k = true
    · have q2 : k ∈ used := by simpa using q
      simp [wipeE, dN, notIn_N h4, q2]
    · have q2 : k ∉ used := by simpa using q
      simp [wipeE, dN, notIn_N h4, h2, x1, dC, q2, -List.getD_eq_getElem?_getD]
  · intro k hk _
    simp [wipeE]
end Law

set_option maxHeartbeats 1000000
namespace Law
open PySem Rf L2
theorem getD_appL {us : List Nat} {y t : Nat} (h : t < us.length) : (us ++ [y]).getD t 0 = us.getD t 0 := by rw [getD_app, if_neg (by omega)]
theorem getD_appR {us : List Nat} {y : Nat} : (us ++ [y]).getD us.length 0 = y := by rw [getD_app, if_pos rfl]
theorem KP.step {cs : List (List Nat)} {n j : Nat} {used img img' q : List Nat} {y : Nat} (S : CS n cs) (K : KP cs n j used img) (hj : j < cs.length) (hy : y < cs.length) (hu : y ∉ used) (hs : (cs.getD y []).length = (cs.getD j []).length)
    (Q : IsP (cs.getD j []).length q) (l : img'.length = n) (w : ∀ k, k < (cs.getD j []).length → img'.getD ((cs.getD j []).getD k 0) 0 = (cs.getD y []).getD (q.getD k 0) 0)
    (z : ∀ i, (∀ k, k < (cs.getD j []).length → (cs.getD j []).getD k 0 ≠ i) → img'.getD i 0 = img.getD i 0) : KP cs n (j + 1) (used ++ [y]) img' := by
  have ul := K.ul
  have uo : ∀ t, t < j → (used ++ [y]).getD t 0 = used.getD t 0 := fun t ht => getD_appL (by omega)
  have un : (used ++ [y]).getD j 0 = y := by rw [← ul]; exact getD_appR
  refine ⟨by simp [ul], ?_, fun t ht => ?_, l, fun t ht => ?_⟩
  · rw [List.nodup_append]
    exact ⟨K.un, by simp, fun a ha b hb => by rw [List.mem_singleton] at hb; subst hb; exact fun e => hu (e ▸ ha)⟩
  · by_cases h : t = j
    · subst h; rw [un]; exact ⟨hy, hs⟩
    · rw [uo t (by omega)]; exact K.us t (by omega)
  · by_cases h : t = j
    · subst h; rw [un]; exact ⟨q, Q, w⟩
    · rw [uo t (by omega)]
      obtain ⟨q', Q', w'⟩ := K.im t (by omega)
      exact ⟨q', Q', fun k hk => by
        rw [z]
        · exact w' k hk
        · intro k' hk' e
          exact h (S.inj _ _ _ _ hj hk' (by omega) hk e).1.symm⟩
/-- the heap of keeping -/
def HK (h : AH) (a : Nat) (cs : List (List Nat)) (o : AO) (img used : List Nat) (g : AH) : AH := h.set a o ++ (.lst (cs.map dC) :: .lst [.int 0] :: .lst (img.map dN) :: .lst (used.map dN) :: g)
section
variable {h : AH} {a : Nat} {cs : List (List Nat)} {o : AO} {img used : List Nat} {g : AH}
theorem HK_a (ha : a < h.length) : (HK h a cs o img used g)[a]? = some o := app_get_l (List.getElem?_set_self ha)
theorem HK_0 : (HK h a cs o img used g)[h.length]? = some (.lst (cs.map dC)) := by unfold HK; rw [app_get0]; rfl
theorem HK_2 : (HK h a cs o img used g)[h.length + 2]? = some (.lst (img.map dN)) := by
  unfold HK
  have := app_get (h := h.set a o) (g := .lst (cs.map dC) :: .lst [.int 0] :: .lst (img.map dN) :: .lst (used.map dN) :: g) (i := 2)
  rwa [List.length_set] at this
theorem HK_3 : (HK h a cs o img used g)[h.length + 3]? = some (.lst (used.map dN)) := by
  unfold HK
  have := app_get (h := h.set a o) (g := .lst (cs.map dC) :: .lst [.int 0] :: .lst (img.map dN) :: .lst (used.map dN) :: g) (i := 3)
  rwa [List.length_set] at this
theorem HK_g {i : Nat} : (HK h a cs o img used g)[h.length + 4 + i]? = g[i]? := by
  unfold HK
  have := app_get (h := h.set a o) (g := .lst (cs.map dC) :: .lst [.int 0] :: .lst (img.map dN) :: .lst (used.map dN) :: g) (i := 4 + i)
  rw [List.length_set] at this
  rw [Nat.add_assoc, this, Nat.add_comm 4 i]; rfl
theorem HK_len : (HK h a cs o img used g).length = h.length + 4 + g.length := by unfold HK; simp; omega
theorem HK_sa (ha : a < h.length) (o' : AO) : (HK h a cs o img used g).set a o' = HK h a cs o' img used g := by
  unfold HK; rw [app_set_l (by simpa using ha), List.set_set]
theorem HK_s2 (v : List Nat) : (HK h a cs o img used g).set (h.length + 2) (.lst (v.map dN)) = HK h a cs o v used g := by
  unfold HK; rw [app_set (i := 2) (by simp)]; rfl
theorem HK_s3 (v : List Nat) : (HK h a cs o img used g).set (h.length + 3) (.lst (v.map dN)) = HK h a cs o img v g := by
  unfold HK; rw [app_set (i := 3) (by simp)]; rfl
theorem HK_app (x : AH) : HK h a cs o img used g ++ x = HK h a cs o img used (g ++ x) := by unfold HK; simp
end
theorem keeping_spec {L : List Nat} (C : Canon L) {n : Nat} (hn : L.length = n) (h1 : 1 ≤ n) (hL : n ≤ 1000) {h : AH} {a N : Nat} {o : AO} (ha : h[a]? = some o) (hb : Bag N o) (hN : N + 2000000 ≤ 1000000000) :
    ∃ (p : List Nat) (o' : AO), c__law_keeping [.ref a, .tup (L.map dN)] h = .ok (.ref h.length) (h.set a o' ++ [.lst (p.map dN)]) ∧ IsP n p ∧ Bag (N + 2000000) o' := by
  have hal := (List.getElem?_eq_some_iff.mp ha).1
  have S := cs_cls C
  rw [hn] at S
  generalize hcs : cls L = cs at S
  have hcl : cs.length ≤ 1000 := by have := S.le; omega
  have dl : ∀ c h, cLen [dC c] h = .ok (.int c.length) h := fun c h => by simp [dC]
  obtain ⟨e', h', q, x5, x6, x7, x8, x9, used, img, o', g, rfl, rfl, K, B⟩ := liveL_inv (g := gVar 5) (b := lb__law_keeping_1) (r := h.length) (ds := cs.map dC)
    (fun j e h' => ∃ x5 x6 x7 x8 x9 used img o' g, e = [some (.ref a), some (.tup (L.map dN)), some (.ref h.length), some (.ref (h.length + 2)), some (.ref (h.length + 3)), x5, x6, x7, x8, x9, none] ∧ h' = HK h a cs o' img used g ∧ KP cs n j used img ∧ Bag (N + j * (1 + n)) o')
    (by rintro i e h' ⟨x5, x6, x7, x8, x9, used, img, o', g, rfl, rfl, K, B⟩; exact HK_0)
    (e := [some (.ref a), some (.tup (L.map dN)), some (.ref h.length), some (.ref (h.length + 2)), some (.ref (h.length + 3)), none, none, none, none, none, none]) (h := HK h a cs o (List.replicate n 0) [] [])
    ⟨none, none, none, none, none, [], List.replicate n 0, o, [], rfl, rfl, ⟨rfl, List.nodup_nil, fun t ht => absurd ht (by omega), by simp, fun t ht => absurd ht (by omega)⟩, by simpa using hb⟩ (by
      rintro j d e h' hd ⟨x5, x6, x7, x8, x9, used, img, o', g, rfl, rfl, K, B⟩
      have hj : j < cs.length := by
        have := (List.getElem?_eq_some_iff.mp hd).1
        simpa using this
      rw [List.getElem?_map, getD_some (a := []) hj] at hd
      obtain rfl : dC (cs.getD j []) = d := by simpa using hd
      have fp := free_pos hj K.ul fun t ht => (K.us t ht).2
      have hjn : j * (1 + n) ≤ 1000 * 1001 := Nat.mul_le_mul (by omega) (by omega)
      have P := S.pos j hj
      have fl : (freeOf cs used (cs.getD j []).length).length ≤ 1000 := Nat.le_trans (List.length_filter_le _ _) (by simpa using hcl)
      generalize hF : freeOf cs used (cs.getD j []).length = F at fp fl
      obtain ⟨d, o2, ed, hd2, B2⟩ := take_spec (s := (F.length : Int)) (HK_a (g := g ++ [.lst (F.map dN)]) (cs := cs) (o := o') (img := img) (used := used) hal) B (by omega) (by omega) (by omega)
      rw [HK_sa hal] at ed
      have hd3 : d < F.length := by omega
      have M := mem_free (cs := cs) (used := used) (s := (cs.getD j []).length) (d := d) (by rw [hF]; exact hd3)
      rw [hF] at M
      generalize hy : F.getD d 0 = y at M
      obtain ⟨qq, o3, es, Q, B3⟩ := shuffled_spec (n := (cs.getD j []).length) (HK_a (g := g ++ [.lst (F.map dN)]) (cs := cs) (o := o2) (img := img) (used := used ++ [y]) hal) B2 P.1 (by omega) (by omega)
      rw [HK_sa hal, HK_app, HK_len] at es
      obtain ⟨e', h', q, x9', img', rfl, rfl, il, iw, iz⟩ := loopN (k := 9) (b := lb__law_keeping_2)
        (fun i e h' => ∃ x9 img', e = [some (.ref a), some (.tup (L.map dN)), some (.ref h.length), some (.ref (h.length + 2)), some (.ref (h.length + 3)), some (dC (cs.getD j [])), some (.ref (h.length + 4 + g.length)), some (dN y), some (.ref (h.length + 4 + (g ++ [AO.lst (F.map dN)]).length)), x9, none] ∧
          h' = HK h a cs o3 img' (used ++ [y]) (g ++ [.lst (F.map dN)] ++ [.lst (qq.map dN)]) ∧ img'.length = n ∧ (∀ k, k < i → img'.getD ((cs.getD j []).getD k 0) 0 = (cs.getD y []).getD (qq.getD k 0) 0) ∧ (∀ i', (∀ k, k < i → (cs.getD j []).getD k 0 ≠ i') → img'.getD i' 0 = img.getD i' 0))
        (cs.getD j []).length (e := [some (.ref a), some (.tup (L.map dN)), some (.ref h.length), some (.ref (h.length + 2)), some (.ref (h.length + 3)), some (dC (cs.getD j [])), some (.ref (h.length + 4 + g.length)), some (dN y), some (.ref (h.length + 4 + (g ++ [AO.lst (F.map dN)]).length)), x9, none])
        (h := HK h a cs o3 img (used ++ [y]) (g ++ [.lst (F.map dN)] ++ [.lst (qq.map dN)]))
        ⟨x9, img, rfl, rfl, K.il, fun k hk => absurd hk (by omega), fun _ _ => rfl⟩ (by
          rintro i e h' hi ⟨x9, img', rfl, rfl, il, iw, iz⟩
          have hq := Q.lt i hi
          have hl := S.lt j i hj hi
          refine ⟨_, _, ?_, some (dN i), img'.set ((cs.getD j []).getD i 0) ((cs.getD y []).getD (qq.getD i 0) 0), rfl, rfl, by simpa using il, fun k hk => ?_, fun i' hi' => ?_⟩
          · have x1 : ∀ h, ixD (cs.map dC) (y : Int) h = .ok (dC (cs.getD y [])) h := fun h => ixD_map (getD_some M.1)
            have x2 : ∀ h, ixD (qq.map dN) (i : Int) h = .ok (dN (qq.getD i 0)) h := fun h => ixD_N (by rw [Q.len]; exact hi)
            have x3 : ∀ h, ixD ((cs.getD y []).map dN) ((qq.getD i 0 : Nat) : Int) h = .ok (dN ((cs.getD y []).getD (qq.getD i 0) 0)) h := fun h => ixD_N (by rw [M.2.2]; exact hq)
            have x4 : ∀ h, ixD ((cs.getD j []).map dN) (i : Int) h = .ok (dN ((cs.getD j []).getD i 0)) h := fun h => ixD_N hi
            have x5 : ∀ r (v : Nat) h, putO (some (.lst (img'.map dN))) r (((cs.getD j []).getD i 0 : Nat) : Int) (dN v) h = some (h.set r (.lst ((img'.set ((cs.getD j []).getD i 0) v).map dN))) := fun r v h => putO_N (by omega)
            have l1 := HK_0 (h := h) (a := a) (cs := cs) (o := o3) (img := img') (used := used ++ [y]) (g := g ++ [.lst (F.map dN)] ++ [.lst (qq.map dN)])
            have l2 := HK_2 (h := h) (a := a) (cs := cs) (o := o3) (img := img') (used := used ++ [y]) (g := g ++ [.lst (F.map dN)] ++ [.lst (qq.map dN)])
            have l3 : (HK h a cs o3 img' (used ++ [y]) (g ++ [.lst (F.map dN)] ++ [.lst (qq.map dN)]))[h.length + 4 + (g ++ [AO.lst (F.map dN)]).length]? = some (.lst (qq.map dN)) := by rw [HK_g]; simp
            have l4 := fun v => HK_s2 (h := h) (a := a) (cs := cs) (o := o3) (img := img') (used := used ++ [y]) (g := g ++ [.lst (F.map dN)] ++ [.lst (qq.map dN)]) v
            generalize hX : h.length + 4 + (g ++ [AO.lst (F.map dN)]).length = X at l3 ⊢
            generalize hG : g ++ [.lst (F.map dN)] ++ [.lst (qq.map dN)] = G at l1 l2 l3 l4 ⊢
            simp only [dN] at x1 x2 x3 x4 x5
            simp [lb__law_keeping_2, dN, l1, l2, l3, x1, x2, x3, x4, dC, -List.getD_eq_getElem?_getD]
            rw [x5]
            simp only [dN, putS_some, onlyNx_nx, l4]
          · by_cases hk2 : k = i
            · subst hk2
              rw [getD_set (by omega), if_pos rfl]
            · rw [getD_set (by omega), if_neg fun e => hk2 (S.inj _ _ _ _ hj (by omega) hj hi e.symm).2]
              exact iw k (by omega)
          · rw [getD_set (by omega), if_neg (hi' i (by omega))]
            exact iz i' fun k hk => hi' k (by omega))
      refine ⟨_, _, ?_, some (dC (cs.getD j [])), some (.ref (h.length + 4 + g.length)), some (dN y), some (.ref (h.length + 4 + (g ++ [AO.lst (F.map dN)]).length)), x9', _, _, o3, g ++ [.lst (F.map dN)] ++ [.lst (qq.map dN)], rfl, rfl, K.step S hj M.1 M.2.1 M.2.2 Q il iw iz, B3.mono ?_⟩
      · have l0 := lc_keeping (h := HK h a cs o' img used g) (used := used) (c := cs.getD j []) hcl HK_0 HK_3 (x0 := some (.ref a)) (x1 := some (.tup (L.map dN))) (x3 := some (.ref (h.length + 2))) (x6 := x6) (x7 := x7) (x8 := x8) (x9 := x9) (x10 := none)
        rw [HK_app, HK_len, hF] at l0
        have l1 : (HK h a cs o' img used (g ++ [.lst (F.map dN)]))[h.length + 4 + g.length]? = some (.lst (F.map dN)) := by rw [HK_g]; simp
        have l1' : (HK h a cs o2 img used (g ++ [.lst (F.map dN)]))[h.length + 4 + g.length]? = some (.lst (F.map dN)) := by rw [HK_g]; simp
        have l2 := HK_3 (h := h) (a := a) (cs := cs) (o := o2) (img := img) (used := used) (g := g ++ [.lst (F.map dN)])
        have l3 := HK_s3 (h := h) (a := a) (cs := cs) (o := o2) (img := img) (used := used) (g := g ++ [.lst (F.map dN)]) (used ++ [y])
        have x1 : ∀ h, ixD (F.map dN) (d : Int) h = .ok (dN y) h := fun h => by rw [← hy]; exact ixD_N hd3
        have ap : ∀ r v h, appO (some (.lst (used.map dN))) r v h = .ok .non (h.set r (.lst (used.map dN ++ [v]))) := fun r v h => appO_lst (by have := K.ul; rw [List.length_map, sizeLine_eq]; omega)
        have r1 : RgB ((cs.getD j []).length : Int) := rgB_nat (by omega)
        generalize hX : h.length + 4 + (g ++ [AO.lst (F.map dN)]).length = X at q es
        generalize hY : h.length + 4 + g.length = Y at q l0 l1 l1'
        generalize hG : g ++ [.lst (F.map dN)] = G at l0 l1 l1' l2 l3 q es ed
        simp [-List.getD_eq_getElem?_getD] at l0 l3
        rw [show dN (cs.getD j []).length = .int ((cs.getD j []).length : Nat) from rfl] at es
        simp [lb__law_keeping_1, l0, l1, ed, l1', x1, l2, ap, l3, dl, es, r1, rg_zero, q, -List.getD_eq_getElem?_getD]
      · have e : (j + 1) * (1 + n) = j * (1 + n) + (1 + n) := by rw [Nat.add_mul, Nat.one_mul]
        omega)
  have hcn : cs.length * (1 + n) ≤ 1000 * 1001 := Nat.mul_le_mul (by omega) (by omega)
  rw [List.length_map] at K B
  refine ⟨img, o', ?_, K.isP S, B.mono (by omega)⟩
  have c0 : c__law_classes [.tup (L.map dN)] h = .ok (.ref h.length) (h ++ [.lst (cs.map dC)]) := by rw [← hcs]; exact classes_spec (by omega)
  have r1 : RepOk 1 (n : Int) := repOk_1 (by omega)
  have e : c__law_keeping [.ref a, .tup (L.map dN)] h = gc h (.ok (.ref (h.length + 2)) (h.set a o' ++ (.lst (cs.map dC) :: .lst [.int 0] :: .lst (img.map dN) :: .lst (used.map dN) :: g))) := by
    unfold c__law_keeping fsem
    unfold HK at q
    rw [set_self ha] at q
    have d0 : dN 0 = D.int 0 := rfl
    simp only [List.map_replicate, List.map_nil, d0] at q
    simp [m__law_keeping, c0, hn, r1, rep_zero, d0, q]
  rw [e, gc_set_new B.flat (i := 2) rfl (by simp)]
end Law

set_option maxHeartbeats 1000000
namespace Law
open PySem Rf L2
/-- a heap where one bag was turned -/
theorem moving_spec {L : List Nat} (C : Canon L) {n : Nat} (hn : L.length = n) (h1 : 1 ≤ n) (hL : n ≤ 1000) {h : AH} {a N : Nat} {o : AO} (ha : h[a]? = some o) (hb : Bag N o) (hN : N + 2000010 ≤ 1000000000) (b : Bool) :
    ∃ (p : List Nat) (o' : AO), c__law_moving [.ref a, .tup (L.map dN), .bl b] h = .ok (.tup (p.map dN)) (h.set a o') ∧ IsP n p ∧ Bag (N + 2000010) o' := by
  have hal := (List.getElem?_eq_some_iff.mp ha).1
  obtain ⟨k0, o1, e1, hk, B1⟩ := take_spec (s := 4) ha hb (by omega) (by omega) (by omega)
  have ha1 := get_set ha o1
  have ss : ∀ (x y : AO), (h.set a x).set a y = h.set a y := fun x y => by rw [List.set_set]
  obtain ⟨k, hkk⟩ : ∃ k, k = (if b = true then 2 else k0) := ⟨_, rfl⟩
  by_cases z : k = 0
  · obtain ⟨p, o2, e2, P, B2⟩ := shuffled_spec (n := n) ha1 B1 h1 hL (by omega)
    rw [ss] at e2
    have f2 : c__law_shuffled [.ref a, .int (n : Int)] (h.set a o1) = .ok (.ref h.length) (h.set a o2 ++ [.lst (p.map dN)]) := by rw [← List.length_set (as := h) (i := a) (a := o1)]; exact e2
    refine ⟨p, o2, ?_, P, B2.mono (by omega)⟩
    have e : c__law_moving [.ref a, .tup (L.map dN), .bl b] h = gc h (.ok (.tup (p.map dN)) (h.set a o2 ++ [.lst (p.map dN)])) := by
      unfold c__law_moving fsem
      cases b with
      | false =>
        have : k0 = 0 := by simpa [hkk] using z
        subst this
        simp [m__law_moving, e1, hn, f2]
      | true => simp [hkk] at z
    rw [e, gc_set_app (by simp) B2.flat]
  · obtain ⟨p, o2, e2, P, B2⟩ := keeping_spec C hn h1 hL ha1 B1 (by omega)
    rw [ss, List.length_set] at e2
    by_cases y : k = 1
    · have hb0 : b = false := by
        cases b with
        | false => rfl
        | true => simp [hkk] at y
      subst hb0
      have hk0 : k0 = 1 := by simpa [hkk] using y
      subst hk0
      have a2 : (h.set a o2 ++ [AO.lst (p.map dN)])[a]? = some o2 := app_get_l (get_set ha o2)
      obtain ⟨u, o3, e3, hu, B3⟩ := take_spec (s := (n : Int)) a2 B2 (by omega) (by omega) (by omega)
      rw [app_set_l (by simpa using hal), ss] at e3
      have a3 : (h.set a o3 ++ [AO.lst (p.map dN)])[a]? = some o3 := app_get_l (get_set ha o3)
      obtain ⟨v, o4, e4, hv, B4⟩ := take_spec (s := (n : Int)) a3 B3 (by omega) (by omega) (by omega)
      rw [app_set_l (by simpa using hal), ss] at e4
      have lp := P.len
      have x1 : ∀ h, ixD (p.map dN) (u : Int) h = .ok (dN (p.getD u 0)) h := fun h => ixD_N (by omega)
      have x2 : ∀ h, ixD (p.map dN) (v : Int) h = .ok (dN (p.getD v 0)) h := fun h => ixD_N (by omega)
      have y1 : ∀ (ds : List D) r v h, ds.length = n → putO (some (.lst ds)) r (u : Int) v h = some (h.set r (.lst (ds.set u v))) := fun ds r v h hl => putO_nat (by omega)
      have y2 : ∀ (ds : List D) r w h, ds.length = n → putO (some (.lst ds)) r (v : Int) w h = some (h.set r (.lst (ds.set v w))) := fun ds r v h hl => putO_nat (by omega)
      refine ⟨(p.set u (p.getD v 0)).set v (p.getD u 0), o4, ?_, P.swap (by omega) (by omega), B4.mono (by omega)⟩
      have e : c__law_moving [.ref a, .tup (L.map dN), .bl false] h = gc h (.ok (.tup (((p.set u (p.getD v 0)).set v (p.getD u 0)).map dN)) (h.set a o4 ++ [.lst (((p.set u (p.getD v 0)).set v (p.getD u 0)).map dN)])) := by
        unfold c__law_moving fsem
        simp [m__law_moving, e1, hn, e2, e3, e4, x1, x2, y1, y2, lp, -List.getD_eq_getElem?_getD]
      rw [e]; exact gc_set_app (show pures _ = true from pures_dN _) B4.flat
    · refine ⟨p, o2, ?_, P, B2.mono (by omega)⟩
      have e : c__law_moving [.ref a, .tup (L.map dN), .bl b] h = gc h (.ok (.tup (p.map dN)) (h.set a o2 ++ [.lst (p.map dN)])) := by
        unfold c__law_moving fsem
        cases b with
        | false =>
          have z' : ¬ k0 = 0 := by simpa [hkk] using z
          have y' : ¬ k0 = 1 := by simpa [hkk] using y
          have z2 : ¬ (k0 : Int) = 0 := by omega
          have y2 : ¬ (k0 : Int) = 1 := by omega
          simp [m__law_moving, e1, hn, e2, z', y', z2, y2]
        | true => simp [m__law_moving, e1, hn, e2]
      rw [e, gc_set_app (by simp) B2.flat]
def dP (x : Nat × Nat) : D := .tup [dN x.1, dN x.2]
end Law

set_option maxHeartbeats 1000000
namespace Law
open PySem Rf L2
theorem whole_spec (i : Int) (h : AH) : c__law_is_whole [.int i] h = .ok (.bl true) h := by
  have e : c__law_is_whole [.int i] h = gc h (.ok (.bl true) h) := by
    unfold c__law_is_whole fsem
    simp [m__law_is_whole]
  rw [e, gc_same (by simp)]
theorem row_spec {L : List Nat} (hl : L.length ≤ 1000) {y : D} {h : AH} (hy1 : cLen [y] h = .ok (.int (L.length : Nat)) h) (hy2 : ∀ i, i < L.length → oIx y (.int (i : Nat)) h = .ok (dN (L.getD i 0)) h) :
    c__law_is_row [.tup (L.map dN), y] h = .ok (.bl true) h := by
  obtain ⟨e', h', w, x2, rfl, rfl⟩ := loopN (k := 2) (b := lb__law_is_row_1)
    (fun i e h' => ∃ x2, e = [some (.tup (L.map dN)), some y, x2] ∧ h = h')
    L.length (e := [some (.tup (L.map dN)), some y, none]) (h := h) ⟨none, rfl, rfl⟩ (by
      rintro i e h' hi ⟨x2, rfl, rfl⟩
      have x1 : ∀ h, ixD (L.map dN) (i : Int) h = .ok (dN (L.getD i 0)) h := fun h => ixD_N hi
      refine ⟨_, _, ?_, some (dN i), rfl, rfl⟩
      have y2 := hy2 i hi
      simp only [dN] at x1 y2
      simp [lb__law_is_row_1, x1, y2, whole_spec, -List.getD_eq_getElem?_getD])
  have r1 : RgB (L.length : Int) := rgB_nat (by omega)
  have e : c__law_is_row [.tup (L.map dN), y] h = gc h (.ok (.bl true) h) := by
    unfold c__law_is_row fsem
    try simp only [dN] at w
    simp [m__law_is_row, hy1, r1, rg_zero, w]
  rw [e, gc_same (by simp)]
theorem truth_spec (a b : Bool) (h : AH) : c__law_is_truth [.bl a, .bl b] h = .ok (.bl (a == b)) h := by
  have e : c__law_is_truth [.bl a, .bl b] h = gc h (.ok (.bl (a == b)) h) := by
    unfold c__law_is_truth fsem
    have : oEq (.bl a) (.bl b) = fun h => .ok (.bl (a == b)) h := by
      funext h
      cases a <;> cases b <;> rfl
    simp [m__law_is_truth, this]
  rw [e, gc_same rfl]
end Law

set_option maxHeartbeats 1000000
/-! odd labels -/
namespace Law
open PySem Rf L2
def B0 : D → Prop
  | .non => True
  | .bl _ => True
  | .int _ => True
  | .str _ => True
  | _ => False
theorem isrow_B {d : D} (hb : B0 d) {n : Int} {h : AH} : c_is_row [d, .int n] h = .ok (.bl false) h := by
  cases d <;> first | exact hb.elim | (unfold c_is_row fsem; simp [m_is_row])
theorem isrow_T {ws : List D} {n : Nat} {h : AH} : c_is_row [.tup ws, .int (n : Int)] h = .ok (.bl (ws.length == n)) h := by
  unfold c_is_row fsem
  simp [m_is_row]
/-- a value that an odd row of labels may hold; an odd row of labels -/
def V0 (d : D) : Prop := B0 d ∨ ∃ ws, d = .tup ws ∧ pures ws = true
def Vd (d : D) : Prop := B0 d ∨ ∃ vs, d = .tup vs ∧ vs.length ≤ 1000 ∧ ∀ v ∈ vs, V0 v
theorem V0.pure {d : D} (w : V0 d) : d.pure = true := by
  rcases w with w | ⟨ws, rfl, h⟩
  · cases d <;> first | exact w.elim | rfl
  · exact h
def isI : D → Bool
  | .int _ => true
  | _ => false
theorem whole_V {w : D} (hw : V0 w) {h : AH} : c_is_whole [w] h = .ok (.bl (isI w)) h := by
  rcases hw with hw | ⟨ws, rfl, _⟩
  · cases w <;> first | exact hw.elim | (unfold c_is_whole fsem; simp [m_is_whole, isI])
  · unfold c_is_whole fsem; simp [m_is_whole, isI]
theorem lwhole_V {w : D} (hw : V0 w) {h : AH} : c__law_is_whole [w] h = .ok (.bl (isI w)) h := by
  rcases hw with hw | ⟨ws, rfl, _⟩
  · cases w <;> first | exact hw.elim | (unfold c__law_is_whole fsem; simp [m__law_is_whole, isI])
  · unfold c__law_is_whole fsem; simp [m__law_is_whole, isI]
theorem index_V {w : D} (hw : V0 w) {n : Nat} {h : AH} : c_is_index [w, .int (n : Int)] h = .ok (.bl (idx n w).isSome) h := by
  have e1 := fun h => whole_V hw (h := h)
  cases w with
  | int i =>
    have e : c_is_index [.int i, .int (n : Int)] h = gc h (.ok (.bl (decide (0 ≤ i ∧ i < (n : Int)))) h) := by
      unfold c_is_index fsem
      by_cases q : 0 ≤ i <;> simp [m_is_index, e1, q, isI]
    rw [e, gc_same rfl]
    simp only [idx]
    by_cases q : 0 ≤ i ∧ i < (n : Int)
    · simp [q]
    · rw [if_neg q, decide_eq_false q]; rfl
  | _ =>
    unfold c_is_index fsem
    simp [m_is_index, e1, idx, isI]
def IsLab (n : Nat) (d : D) : Prop := ∃ L : List Nat, d = .tup (L.map dN) ∧ L.length = n ∧ Canon L
section
variable {n k : Nat} {vs : List D} {v : D} {M : List Nat}
theorem IsLab.at (q : IsLab n (.tup vs)) (hv : vs[k]? = some v) : ∃ L : List Nat, vs = L.map dN ∧ v = dN (L.getD k 0) ∧ k < L.length ∧ L.getD k 0 ≤ k ∧ L.getD (L.getD k 0) 0 = L.getD k 0 := by
  obtain ⟨L, e, l, C⟩ := q
  cases e
  rw [List.getElem?_map] at hv
  obtain ⟨x, hx, rfl⟩ := Option.map_eq_some_iff.mp hv
  have hk := (List.getElem?_eq_some_iff.mp hx).1
  have ex : L.getD k 0 = x := by rw [List.getD_eq_getElem?_getD, hx]; rfl
  have c := C k hk
  exact ⟨L, rfl, by rw [ex], hk, c.1, c.2⟩
theorem lab_no1 (hv : vs[k]? = some v) (q : idx (k + 1) v = none) : ¬ IsLab n (.tup vs) := fun z => by
  obtain ⟨L, e, ev, hk, c1, c2⟩ := z.at hv
  rw [ev, idx_N, if_pos (by omega)] at q
  cases q
theorem pre_get (e : vs.take k = M.map dN) (l : M.length = k) {t : Nat} (ht : t < k) : vs[t]? = some (dN (M.getD t 0)) := by
  have := congrArg (fun z => z[t]?) e
  simp only [List.getElem?_take, List.getElem?_map] at this
  rw [if_pos ht] at this
  rw [this, getD_some (by omega) (a := 0)]
  rfl
theorem lab_no2 (e : vs.take k = M.map dN) (l : M.length = k) (hv : vs[k]? = some v) {t : Nat} (q : idx (k + 1) v = some t) (ht : t < k) (ne : M.getD t 0 ≠ t) : ¬ IsLab n (.tup vs) := fun z => by
  obtain ⟨L, e2, ev, hk, c1, c2⟩ := z.at hv
  have := (idx_some q).1
  rw [this] at ev
  have et : t = L.getD k 0 := by have := D.int.inj ev; omega
  have g := pre_get e l ht
  rw [e2, List.getElem?_map, getD_some (by omega) (a := 0)] at g
  have g2 : L.getD t 0 = M.getD t 0 := by have := D.int.inj (Option.some.inj g); omega
  rw [← et, g2] at c2
  exact ne c2
theorem lab_step (e : vs.take k = M.map dN) (l : M.length = k) (C : Canon M) (hv : vs[k]? = some v) {t : Nat} (q : idx (k + 1) v = some t) (ok : t < k → M.getD t 0 = t) : vs.take (k + 1) = (M ++ [t]).map dN ∧ Canon (M ++ [t]) := by
  have h := idx_some q
  refine ⟨?_, C.push ?_⟩
  · rw [List.take_add_one, hv, e, h.1]; simp
  · by_cases c : t < k
    · exact .inr ⟨by omega, ok c⟩
    · exact .inl (by omega)
end
theorem is_labels_spec {d : D} (hd : Vd d) {n : Nat} (hn : n ≤ 1000) {h : AH} : ∃ b, c_is_labels [d, dN n] h = .ok (.bl b) h ∧ (b = true ↔ IsLab n d) := by
  rcases hd with hb | ⟨vs, rfl, hl, hv⟩
  · refine ⟨false, ?_, by simp; rintro ⟨L, e, _⟩; subst e; exact hb⟩
    unfold c_is_labels fsem
    have e1 := fun h => isrow_B hb (n := (n : Int)) (h := h)
    simp [m_is_labels, e1, dN]
  · have e1 := fun h => isrow_T (ws := vs) (n := n) (h := h)
    by_cases c : vs.length = n
    · rcases sFor_enumT_ret (m := eVar 0) (g := Rf.gTup 2 (Rf.gCons (gVar 2) (Rf.gCons (gVar 3) gNils))) (b := lb_is_labels_1) (ds := vs) (e := [some (.tup vs), some (dN n), none, none]) (h := h) (h1 := h)
        (fun k e h' => ∃ x2 x3 M, e = [some (.tup vs), some (dN n), x2, x3] ∧ h = h' ∧ vs.take k = M.map dN ∧ M.length = k ∧ Canon M)
        (fun d h' => d = .bl false ∧ h = h' ∧ ¬ IsLab n (.tup vs)) rfl ⟨none, none, [], rfl, rfl, rfl, rfl, fun j hj => absurd hj (by simp)⟩ (by
          rintro k v e h' hk ⟨x2, x3, M, rfl, rfl, eM, lM, C⟩
          have hkl := (List.getElem?_eq_some_iff.mp hk).1
          have i1 := fun h => index_V (hv v (List.mem_of_getElem? hk)) (n := k + 1) (h := h)
          rw [show ((k + 1 : Nat) : Int) = (k : Int) + 1 from rfl] at i1
          cases hi : idx (k + 1) v with
          | none =>
            refine .inr ⟨.bl false, h, ?_, rfl, rfl, lab_no1 hk hi⟩
            simp [lb_is_labels_1, i1, hi]
          | some t =>
            obtain ⟨rfl, ht⟩ := idx_some hi
            by_cases c2 : t < k
            · have x1 : ∀ h, ixD vs (t : Int) h = .ok (dN (M.getD t 0)) h := fun h => ixD_some (pre_get eM lM c2)
              by_cases c3 : M.getD t 0 = t
              · obtain ⟨s1, s2⟩ := lab_step eM lM C hk hi fun _ => c3
                refine .inl ⟨_, _, ?_, some (dN k), some (dN t), M ++ [t], rfl, rfl, s1, by simp [lM], s2⟩
                rw [c3] at x1
                simp only [dN] at i1 hi x1
                simp [lb_is_labels_1, i1, hi, x1, dN]
              · refine .inr ⟨.bl false, h, ?_, rfl, rfl, lab_no2 eM lM hk hi c2 c3⟩
                have c4 : ¬ ((M.getD t 0 : Nat) : Int) = (t : Int) := by omega
                simp only [dN] at i1 hi x1
                simp [lb_is_labels_1, i1, hi, x1, dN, c3, c4, -List.getD_eq_getElem?_getD]
            · have et : t = k := by omega
              subst et
              obtain ⟨s1, s2⟩ := lab_step eM lM C hk hi fun z => absurd z c2
              have x1 : ∀ h, ixD vs (t : Int) h = .ok (dN t) h := fun h => ixD_some hk
              refine .inl ⟨_, _, ?_, some (dN t), some (dN t), M ++ [t], rfl, rfl, s1, by simp [lM], s2⟩
              simp only [dN] at i1 hi x1
              simp [lb_is_labels_1, i1, hi, x1, dN]) with ⟨e', h', w, x2, x3, M, rfl, rfl, eM, lM, C⟩ | ⟨d', h', w, rfl, rfl, no⟩
      · rw [List.take_length] at eM
        refine ⟨true, ?_, by simp; exact ⟨M, by rw [eM], by omega, C⟩⟩
        have e : c_is_labels [.tup vs, dN n] h = gc h (.ok (.bl true) h) := by
          unfold c_is_labels fsem
          simp only [dN] at w
          simp [m_is_labels, e1, dN, c, w]
        rw [e, gc_same rfl]
      · refine ⟨false, ?_, by simpa using no⟩
        have e : c_is_labels [.tup vs, dN n] h = gc h (.ok (.bl false) h) := by
          unfold c_is_labels fsem
          simp only [dN] at w
          simp [m_is_labels, e1, dN, c, w]
        rw [e, gc_same rfl]
    · refine ⟨false, ?_, by simp; rintro ⟨L, e, l, _⟩; cases e; simp at c; exact c l⟩
      unfold c_is_labels fsem
      simp [m_is_labels, e1, dN, c]
theorem lis_labels_spec {d : D} (hd : Vd d) {n : Nat} (hn : n ≤ 1000) {h : AH} : ∃ b, c__law_is_labels [d, dN n] h = .ok (.bl b) h ∧ (b = true ↔ IsLab n d) := by
  rcases hd with hb | ⟨vs, rfl, hl, hv⟩
  · refine ⟨false, ?_, by simp; rintro ⟨L, e, _⟩; subst e; exact hb⟩
    unfold c__law_is_labels fsem
    cases d <;> first | exact hb.elim | simp [m__law_is_labels]
  · by_cases c : vs.length = n
    · rcases loopN_ret (k := 2) (b := lb__law_is_labels_1) 
        (fun k e h' => ∃ x2 M, e = [some (.tup vs), some (dN n), x2] ∧ h = h' ∧ vs.take k = M.map dN ∧ M.length = k ∧ Canon M)
        (fun d h' => d = .bl false ∧ h = h' ∧ ¬ IsLab n (.tup vs)) n (e := [some (.tup vs), some (dN n), none]) (h := h) ⟨none, [], rfl, rfl, rfl, rfl, fun j hj => absurd hj (by simp)⟩ (by
          rintro k e h' hk ⟨x2, M, rfl, rfl, eM, lM, C⟩
          have hkl : k < vs.length := by omega
          obtain ⟨v, hkv⟩ : ∃ v, vs[k]? = some v := ⟨_, List.getElem?_eq_getElem hkl⟩
          have V := hv v (List.mem_of_getElem? hkv)
          have i1 := fun h => lwhole_V V (h := h)
          have xk : ∀ h, ixD vs (k : Int) h = .ok v h := fun h => ixD_some hkv
          cases hi : idx (k + 1) v with
          | none =>
            refine .inr ⟨.bl false, h, ?_, rfl, rfl, lab_no1 hkv hi⟩
            cases v with
            | int i =>
              have : ¬ (0 ≤ i ∧ i < (k : Int) + 1) := fun z => by
                simp only [idx] at hi
                rw [if_pos (by omega)] at hi
                cases hi
              by_cases c5 : i < 0
              · simp [lb__law_is_labels_1, xk, i1, isI, c5]
              · have c6 : (k : Int) < i := by omega
                simp [lb__law_is_labels_1, xk, i1, isI, c5, c6]
            | _ => simp [lb__law_is_labels_1, xk, i1, isI]
          | some t =>
            obtain ⟨rfl, ht⟩ := idx_some hi
            have i2 : ∀ h, c__law_is_whole [.int t] h = .ok (.bl true) h := i1
            have y1 : ¬ (t : Int) < 0 := by omega
            have y2 : ¬ (k : Int) < (t : Int) := by omega
            by_cases c2 : t < k
            · have x1 : ∀ h, ixD vs (t : Int) h = .ok (dN (M.getD t 0)) h := fun h => ixD_some (pre_get eM lM c2)
              by_cases c3 : M.getD t 0 = t
              · obtain ⟨s1, s2⟩ := lab_step eM lM C hkv hi fun _ => c3
                refine .inl ⟨_, _, ?_, some (dN k), M ++ [t], rfl, rfl, s1, by simp [lM], s2⟩
                rw [c3] at x1
                simp only [dN] at xk x1
                simp [lb__law_is_labels_1, xk, i2, x1, dN, y1, y2]
              · refine .inr ⟨.bl false, h, ?_, rfl, rfl, lab_no2 eM lM hkv hi c2 c3⟩
                have c4 : ¬ ((M.getD t 0 : Nat) : Int) = (t : Int) := by omega
                simp only [dN] at xk x1
                simp [lb__law_is_labels_1, xk, i2, x1, dN, y1, y2, c3, c4, -List.getD_eq_getElem?_getD]
            · have et : t = k := by omega
              subst et
              obtain ⟨s1, s2⟩ := lab_step eM lM C hkv hi fun z => absurd z c2
              refine .inl ⟨_, _, ?_, some (dN t), M ++ [t], rfl, rfl, s1, by simp [lM], s2⟩
              simp only [dN] at xk
              simp [lb__law_is_labels_1, xk, i2, dN, y1, y2]) with ⟨e', h', w, x2, M, rfl, rfl, eM, lM, C⟩ | ⟨d', h', w, rfl, rfl, no⟩
      · rw [← c, List.take_length] at eM
        have r1 : RgB (n : Int) := rgB_nat (by omega)
        refine ⟨true, ?_, by simp; exact ⟨M, by rw [eM], by omega, C⟩⟩
        have e : c__law_is_labels [.tup vs, dN n] h = gc h (.ok (.bl true) h) := by
          unfold c__law_is_labels fsem
          simp only [dN] at w
          simp [m__law_is_labels, dN, c, r1, rg_zero, w]
        rw [e, gc_same rfl]
      · have r1 : RgB (n : Int) := rgB_nat (by omega)
        refine ⟨false, ?_, by simpa using no⟩
        have e : c__law_is_labels [.tup vs, dN n] h = gc h (.ok (.bl false) h) := by
          unfold c__law_is_labels fsem
          simp only [dN] at w
          simp [m__law_is_labels, dN, c, r1, rg_zero, w]
        rw [e, gc_same rfl]
    · refine ⟨false, ?_, by simp; rintro ⟨L, e, l, _⟩; cases e; simp at c; exact c l⟩
      unfold c__law_is_labels fsem
      have c' : ¬ (vs.length : Int) = (n : Int) := by omega
      simp [m__law_is_labels, dN, c, c']
end Law

set_option maxHeartbeats 1000000
namespace Law
open PySem Rf L2
/-! ### the least labels, plainly -/
/-- f is constant on the given pairs and its classes go to classes -/
structure Good (n : Nat) (ps : List (List Nat)) (prs : List (Nat × Nat)) (f : Nat → Nat) : Prop where
  pr : ∀ x ∈ prs, f x.1 = f x.2
  cl : ∀ p ∈ ps, ∀ i j, i < n → j < n → f i = f j → f (p.getD i 0) = f (p.getD j 0)
structure Least (n : Nat) (ps : List (List Nat)) (prs : List (Nat × Nat)) (L : List Nat) : Prop where
  len : L.length = n
  can : Canon L
  good : Good n ps prs (fun i => L.getD i 0)
  least : ∀ f, Good n ps prs f → ∀ i j, i < n → j < n → L.getD i 0 = L.getD j 0 → f i = f j
theorem Least.le {n : Nat} {ps ps' : List (List Nat)} {prs prs' : List (Nat × Nat)} {L M : List Nat} (A : Least n ps prs L) (B : Least n ps' prs' M) (h : Good n ps prs (fun i => M.getD i 0)) : ∀ i, i < n → M.getD i 0 ≤ L.getD i 0 := fun i hi => by
  have c := A.can i (by rw [A.len]; exact hi)
  have := A.least _ h i (L.getD i 0) hi (by omega) c.2.symm
  have d := B.can (L.getD i 0) (by rw [B.len]; omega)
  have this : M.getD i 0 = M.getD (L.getD i 0) 0 := this
  omega
theorem ext_getD {L M : List Nat} (l : L.length = M.length) (h : ∀ i, i < L.length → L.getD i 0 = M.getD i 0) : L = M := by
  apply List.ext_getElem l
  intro i h1 h2
  have := h i h1
  rwa [getD_get h1, getD_get h2] at this
theorem Least.eq {n : Nat} {ps ps' : List (List Nat)} {prs prs' : List (Nat × Nat)} {L M : List Nat} (A : Least n ps prs L) (B : Least n ps' prs' M) (h1 : ∀ f, Good n ps' prs' f → Good n ps prs f) (h2 : ∀ f, Good n ps prs f → Good n ps' prs' f) : L = M :=
  ext_getD (by rw [A.len, B.len]) fun i hi => by
    rw [A.len] at hi
    have := A.le B (h1 _ B.good) i hi
    have := B.le A (h2 _ A.good) i hi
    omega
theorem Least.uniq {n : Nat} {ps : List (List Nat)} {prs : List (Nat × Nat)} {L M : List Nat} (A : Least n ps prs L) (B : Least n ps prs M) : L = M := A.eq B (fun _ h => h) (fun _ h => h)
/-- one merge -/
def mrg (L : List Nat) (a b : Nat) : List Nat := L.map fun c => if c = (if L.getD b 0 > L.getD a 0 then L.getD b 0 else L.getD a 0) then (if L.getD b 0 < L.getD a 0 then L.getD b 0 else L.getD a 0) else c
def cnt (L : List Nat) : Nat := ((List.range L.length).filter fun i => L.getD i 0 == i).length
section
variable {L : List Nat} {a b n : Nat}
theorem mrg_len : (mrg L a b).length = L.length := by simp [mrg]
theorem mrg_at {i : Nat} (hi : i < L.length) : (mrg L a b).getD i 0 = if L.getD i 0 = (if L.getD b 0 > L.getD a 0 then L.getD b 0 else L.getD a 0) then (if L.getD b 0 < L.getD a 0 then L.getD b 0 else L.getD a 0) else L.getD i 0 := by
  unfold mrg; rw [map_getD (d := 0) hi]
theorem mrg_lh : ∃ lo hi, lo ≤ hi ∧ ((lo = L.getD a 0 ∧ hi = L.getD b 0) ∨ (lo = L.getD b 0 ∧ hi = L.getD a 0)) ∧ ∀ i, i < L.length → (mrg L a b).getD i 0 = if L.getD i 0 = hi then lo else L.getD i 0 := by
  by_cases q : L.getD b 0 < L.getD a 0
  · refine ⟨L.getD b 0, L.getD a 0, by omega, .inr ⟨rfl, rfl⟩, fun i hi => ?_⟩
    rw [mrg_at hi, if_neg (show ¬ L.getD b 0 > L.getD a 0 by omega), if_pos q]
  · refine ⟨L.getD a 0, L.getD b 0, by omega, .inl ⟨rfl, rfl⟩, fun i hi => ?_⟩
    rw [mrg_at hi, if_neg q]
    by_cases q2 : L.getD b 0 > L.getD a 0
    · rw [if_pos q2]
    · rw [if_neg q2]
      have : L.getD a 0 = L.getD b 0 := by omega
      rw [this]
theorem mrg_same (h : L.getD a 0 = L.getD b 0) : mrg L a b = L := ext_getD mrg_len fun i hi => by
  rw [mrg_len] at hi
  obtain ⟨lo, up, h1, h2, h3⟩ := mrg_lh (L := L) (a := a) (b := b)
  rw [h3 i hi]
  split <;> omega
theorem mrg_canon (C : Canon L) (ha : a < L.length) (hb : b < L.length) : Canon (mrg L a b) := fun i hi => by
  rw [mrg_len] at hi
  have ci := C i hi
  have ca := C a ha
  have cb := C b hb
  obtain ⟨lo, up, h1, h2, h3⟩ := mrg_lh (L := L) (a := a) (b := b)
  have hl : lo < L.length ∧ L.getD lo 0 = lo := by
    rcases h2 with ⟨rfl, _⟩ | ⟨rfl, _⟩
    · exact ⟨by omega, ca.2⟩
    · exact ⟨by omega, cb.2⟩
  rw [h3 i hi]
  by_cases q : L.getD i 0 = up
  · rw [if_pos q, h3 _ hl.1, hl.2]
    refine ⟨by omega, ?_⟩
    split <;> rfl
  · rw [if_neg q, h3 _ (by omega), ci.2, if_neg q]
    exact ⟨ci.1, rfl⟩
/-- what a merge relates -/
theorem mrg_eq {i j : Nat} (hi : i < L.length) (hj : j < L.length) (h : (mrg L a b).getD i 0 = (mrg L a b).getD j 0) :
    L.getD i 0 = L.getD j 0 ∨ (L.getD i 0 = L.getD a 0 ∧ L.getD j 0 = L.getD b 0) ∨ (L.getD i 0 = L.getD b 0 ∧ L.getD j 0 = L.getD a 0) := by
  obtain ⟨lo, up, h1, h2, h3⟩ := mrg_lh (L := L) (a := a) (b := b)
  rw [h3 i hi, h3 j hj] at h
  split at h <;> split at h <;> omega
theorem mrg_keep {i j : Nat} (hi : i < L.length) (hj : j < L.length) (h : L.getD i 0 = L.getD j 0) : (mrg L a b).getD i 0 = (mrg L a b).getD j 0 := by
  rw [mrg_at hi, mrg_at hj, h]
theorem mrg_do (ha : a < L.length) (hb : b < L.length) : (mrg L a b).getD a 0 = (mrg L a b).getD b 0 := by
  obtain ⟨lo, up, h1, h2, h3⟩ := mrg_lh (L := L) (a := a) (b := b)
  rw [h3 a ha, h3 b hb]
  split <;> split <;> omega
theorem cnt_le : cnt L ≤ L.length := Nat.le_trans (List.length_filter_le _ _) (by simp)
theorem cnt_pos (C : Canon L) (h : 1 ≤ L.length) : 1 ≤ cnt L := by
  have := C 0 (by omega)
  exact List.length_pos_of_mem (a := 0) (List.mem_filter.mpr ⟨List.mem_range.mpr (by omega), by simp only [beq_iff_eq]; omega⟩)
/-- a merge of two classes leaves fewer -/
theorem mrg_cnt (C : Canon L) (ha : a < L.length) (hb : b < L.length) (h : L.getD a 0 ≠ L.getD b 0) : cnt (mrg L a b) + 1 ≤ cnt L := by
  have ca := C a ha
  have cb := C b hb
  obtain ⟨lo, M, h1', h2', h3⟩ := mrg_lh (L := L) (a := a) (b := b)
  have hMl : M < L.length := by omega
  have hMM : L.getD M 0 = M := by rcases h2' with ⟨_, e⟩ | ⟨_, e⟩ <;> rw [e] <;> omega
  have hMm : (mrg L a b).getD M 0 ≠ M := by
    rw [h3 M hMl, if_pos hMM]
    omega
  have := sub_length (l1 := M :: ((List.range (mrg L a b).length).filter fun i => (mrg L a b).getD i 0 == i)) (l2 := (List.range L.length).filter fun i => L.getD i 0 == i)
    (List.nodup_cons.mpr ⟨fun hm => hMm (by simpa using (List.mem_filter.mp hm).2), List.Pairwise.filter _ List.nodup_range⟩) fun x hx => by
      rcases List.mem_cons.mp hx with rfl | hx
      · exact List.mem_filter.mpr ⟨List.mem_range.mpr hMl, by simpa using hMM⟩
      · obtain ⟨h1, h2⟩ := List.mem_filter.mp hx
        rw [List.mem_range, mrg_len] at h1
        rw [beq_iff_eq] at h2
        refine List.mem_filter.mpr ⟨List.mem_range.mpr h1, ?_⟩
        rw [beq_iff_eq]
        rw [h3 x h1] at h2
        have cx := C x h1
        have ra := C a ha
        split at h2
        · rename_i e
          have lx : L.getD lo 0 = lo := by rcases h2' with ⟨e, _⟩ | ⟨e, _⟩ <;> rw [e] <;> omega
          rw [h2] at lx
          exact lx
        · exact h2
  rw [List.length_cons] at this
  exact this
end
/-- pushing a relation back along a perm -/
theorem Good.back {n : Nat} {p q : List Nat} {f : Nat → Nat} (P : IsP n p) (Q : IsP n q) (hq : ∀ i, i < n → q.getD (p.getD i 0) 0 = i) (h : ∀ i j, i < n → j < n → f i = f j → f (p.getD i 0) = f (p.getD j 0)) :
    ∀ i j, i < n → j < n → f i = f j → f (q.getD i 0) = f (q.getD j 0) := by
  intro i j hi hj e
  have hn : 0 < n := by omega
  let R := (List.range (n * n)).filter fun k => f (k / n) == f (k % n)
  let g := fun k => p.getD (k / n) 0 * n + p.getD (k % n) 0
  have dm : ∀ x y, x < n → y < n → (x * n + y) / n = x ∧ (x * n + y) % n = y ∧ x * n + y < n * n := fun x y hx hy => by
    refine ⟨?_, ?_, ?_⟩
    · rw [Nat.mul_comm, Nat.mul_add_div hn, Nat.div_eq_of_lt hy, Nat.add_zero]
    · rw [Nat.mul_comm, Nat.mul_add_mod, Nat.mod_eq_of_lt hy]
    · have : (x + 1) * n ≤ n * n := Nat.mul_le_mul_right n hx
      rw [Nat.add_mul, Nat.one_mul] at this
      omega
  have mR : ∀ k, k ∈ R ↔ k < n * n ∧ f (k / n) = f (k % n) := fun k => by rw [List.mem_filter, List.mem_range, beq_iff_eq]
  have kd : ∀ k, k < n * n → k / n < n ∧ k % n < n := fun k hk => ⟨Nat.div_lt_of_lt_mul hk, Nat.mod_lt _ hn⟩
  have nR : R.Nodup := List.Pairwise.filter _ List.nodup_range
  have ng : (R.map g).Nodup := by
    unfold List.Nodup
    rw [List.pairwise_map]
    refine List.Pairwise.imp_of_mem (fun {a b} ha hb hne heq => hne ?_) nR
    have ka := kd a ((mR a).mp ha).1
    have kb := kd b ((mR b).mp hb).1
    have da := dm _ _ (P.lt _ ka.1) (P.lt _ ka.2)
    have db := dm _ _ (P.lt _ kb.1) (P.lt _ kb.2)
    have e1 : p.getD (a / n) 0 = p.getD (b / n) 0 := by rw [← da.1, ← db.1]; exact congrArg (· / n) heq
    have e2 : p.getD (a % n) 0 = p.getD (b % n) 0 := by rw [← da.2.1, ← db.2.1]; exact congrArg (· % n) heq
    have f1 := P.inj _ _ ka.1 kb.1 e1
    have f2 := P.inj _ _ ka.2 kb.2 e2
    rw [← Nat.div_add_mod a n, ← Nat.div_add_mod b n, f1, f2]
  have sg : ∀ x ∈ R.map g, x ∈ R := fun x hx => by
    obtain ⟨k, hk, rfl⟩ := List.mem_map.mp hx
    obtain ⟨k1, k2⟩ := (mR k).mp hk
    have kk := kd k k1
    have d := dm _ _ (P.lt _ kk.1) (P.lt _ kk.2)
    refine (mR _).mpr ⟨d.2.2, ?_⟩
    show f ((p.getD (k / n) 0 * n + p.getD (k % n) 0) / n) = f ((p.getD (k / n) 0 * n + p.getD (k % n) 0) % n)
    rw [d.1, d.2.1]
    exact h _ _ kk.1 kk.2 k2
  have d := dm i j hi hj
  have hx : i * n + j ∈ R.map g := by
    refine Classical.byContradiction fun hc => ?_
    have := sub_length (l1 := (i * n + j) :: R.map g) (l2 := R) (List.nodup_cons.mpr ⟨hc, ng⟩) fun x hx => by
      rcases List.mem_cons.mp hx with rfl | hx
      · exact (mR _).mpr ⟨d.2.2, by rw [d.1, d.2.1]; exact e⟩
      · exact sg x hx
    rw [List.length_cons, List.length_map] at this
    omega
  obtain ⟨k, hk, ek⟩ := List.mem_map.mp hx
  obtain ⟨k1, k2⟩ := (mR k).mp hk
  have kk := kd k k1
  have dd := dm _ _ (P.lt _ kk.1) (P.lt _ kk.2)
  have e1 : p.getD (k / n) 0 = i := by rw [← dd.1, ← d.1]; exact congrArg (· / n) ek
  have e2 : p.getD (k % n) 0 = j := by rw [← dd.2.1, ← d.2.1]; exact congrArg (· % n) ek
  rw [← e1, ← e2, hq _ kk.1, hq _ kk.2]
  exact k2
end Law

set_option maxHeartbeats 1000000
namespace Law
open PySem Rf L2
theorem loopM {α : Type} {φ : α → D} {k : Nat} {b : SM} (P : Nat → AE → AH → Prop) (xs : List α) {e : AE} {h : AH} (p : P 0 e h)
    (st : ∀ (i : Nat) (x : α) (e : AE) (h : AH), xs[i]? = some x → P i e h → ∃ e' h', b (e.set k (some (φ x))) h = .nx e' h' ∧ P (i + 1) e' h') : ∃ e' h', sLoop (gVar k) b (xs.map φ) e h = .nx e' h' ∧ P xs.length e' h' := by
  have := loop_inv (g := gVar k) (b := b) P (xs.map φ) 0 e h p fun i d e h hd hp => by
    rw [List.getElem?_map] at hd
    cases hx : xs[i]? with
    | none => rw [hx] at hd; cases hd
    | some x =>
      rw [hx] at hd
      cases hd
      rw [Nat.zero_add] at hp
      obtain ⟨e', h', q, p'⟩ := st i x e h hx hp
      exact ⟨e', h', q, by rwa [Nat.zero_add]⟩
  simpa using this
theorem loopM_ret {α : Type} {φ : α → D} {k : Nat} {b : SM} (P : Nat → AE → AH → Prop) (R : D → AH → Prop) (xs : List α) {e : AE} {h : AH} (p : P 0 e h)
    (st : ∀ (i : Nat) (x : α) (e : AE) (h : AH), xs[i]? = some x → P i e h → (∃ e' h', b (e.set k (some (φ x))) h = .nx e' h' ∧ P (i + 1) e' h') ∨ ∃ d' h', b (e.set k (some (φ x))) h = .rt d' h' ∧ R d' h') :
    (∃ e' h', sLoop (gVar k) b (xs.map φ) e h = .nx e' h' ∧ P xs.length e' h') ∨ ∃ d' h', sLoop (gVar k) b (xs.map φ) e h = .rt d' h' ∧ R d' h' := by
  have := loop_ret (g := gVar k) (b := b) P R (xs.map φ) 0 e h p fun i d e h hd hp => by
    rw [List.getElem?_map] at hd
    cases hx : xs[i]? with
    | none => rw [hx] at hd; cases hd
    | some x =>
      rw [hx] at hd
      cases hd
      rw [Nat.zero_add] at hp
      rcases st i x e h hx hp with ⟨e', h', q, p'⟩ | z
      · exact .inl ⟨e', h', q, by rwa [Nat.zero_add]⟩
      · exact .inr z
  simpa using this
theorem min_ex {P : Nat → Prop} (q : ∃ m, P m) : ∃ m, P m ∧ ∀ m', P m' → m ≤ m' := by
  obtain ⟨m, hm⟩ := q
  induction m using Nat.strongRecOn with
  | _ m ih =>
    by_cases z : ∃ k, k < m ∧ P k
    · obtain ⟨k, hk, pk⟩ := z
      exact ih k hk pk
    · exact ⟨m, hm, fun m' pm => Nat.le_of_not_lt fun lt => z ⟨m', lt, pm⟩⟩
open Classical in
theorem while_ix {c : EM} {b : SM} (P : Nat → AE → AH → Prop) (T : AE → AH → Prop)
    (st : ∀ m e h, P m e h → (∃ h1, c e h = .ok (.bl false) h1 ∧ T e h1) ∨ ∃ h1, c e h = .ok (.bl true) h1 ∧ ∃ e' h', b e h1 = .nx e' h' ∧ ∃ m', m' < m ∧ P m' e' h') (m : Nat) (e : AE) (h : AH) (p : P m e h) : ∃ e' h', sWhile c b e h = .nx e' h' ∧ T e' h' := by
  let μ : AE → AH → Nat := fun e h => if q : ∃ m, P m e h then Classical.choose (min_ex q) else 0
  have hμ : ∀ m e h, P m e h → P (μ e h) e h ∧ μ e h ≤ m := fun m e h pm => by
    have q : ∃ m, P m e h := ⟨m, pm⟩
    have e1 : μ e h = Classical.choose (min_ex q) := dif_pos q
    have := Classical.choose_spec (min_ex q)
    rw [e1]
    exact ⟨this.1, this.2 m pm⟩
  refine while_inv (P := fun e h => ∃ m, P m e h) μ T (fun e h pe => ?_) (μ e h) e h (Nat.le_refl _) ⟨m, p⟩
  obtain ⟨m0, pm0⟩ := pe
  have h1 := hμ m0 e h pm0
  rcases st _ e h h1.1 with z | ⟨h1', hc, e', h', hb, m', lt, p'⟩
  · exact .inl z
  · exact .inr ⟨h1', hc, e', h', hb, ⟨m', p'⟩, Nat.lt_of_le_of_lt (hμ m' e' h' p').2 lt⟩
theorem gc_old {h h' : AH} {r : Nat} (hr : r < h.length) : gc h (.ok (.ref r) h') = .ok (.ref r) h' := by
  unfold gc
  dsimp only
  split
  · rw [if_neg (by unfold D.pure; exact Bool.false_ne_true), if_neg (by omega)]
  · rfl
theorem cast_ite {c : Prop} [Decidable c] {a b : Nat} : ((if c then a else b : Nat) : Int) = if c then (a : Int) else (b : Int) := by split <;> rfl
/-- the two ends of a merge -/
theorem mrg_ends (L : List Nat) (a b : Nat) : ∃ lo up : Nat, (∀ h, cMin2 [.int (L.getD a 0 : Nat), .int (L.getD b 0 : Nat)] h = .ok (.int lo) h) ∧ (∀ h, cMax2 [.int (L.getD a 0 : Nat), .int (L.getD b 0 : Nat)] h = .ok (.int up) h) ∧
    (L.getD a 0 = L.getD b 0 → lo = up) ∧ (lo = up → L.getD a 0 = L.getD b 0) ∧ mrg L a b = L.map fun c => if c = up then lo else c := by
  refine ⟨if L.getD b 0 < L.getD a 0 then L.getD b 0 else L.getD a 0, if L.getD b 0 > L.getD a 0 then L.getD b 0 else L.getD a 0, fun h => ?_, fun h => ?_, fun e => ?_, fun e => ?_, rfl⟩
  · rw [cMin2_int, cast_ite]
    by_cases q : L.getD b 0 < L.getD a 0
    · rw [if_pos q, if_pos (by omega)]
    · rw [if_neg q, if_neg (by omega)]
  · rw [cMax2_int, cast_ite]
    by_cases q : L.getD b 0 > L.getD a 0
    · rw [if_pos q, if_pos (by omega)]
    · rw [if_neg q, if_neg (by omega)]
  · rw [if_neg (by omega), if_neg (by omega)]
  · split at e <;> split at e <;> omega
theorem merged_spec {L : List Nat} (hl : L.length ≤ 1000) {a b : Nat} (ha : a < L.length) (hb : b < L.length) {h : AH} :
    c_merged [.tup (L.map dN), dN a, dN b] h = .ok (.tup ((mrg L a b).map dN)) h := by
  obtain ⟨lo, up, m1, m2, m3, m3', m4⟩ := mrg_ends L a b
  have x1 : ∀ h, ixD (L.map dN) (a : Int) h = .ok (dN (L.getD a 0)) h := fun h => ixD_N ha
  have x2 : ∀ h, ixD (L.map dN) (b : Int) h = .ok (dN (L.getD b 0)) h := fun h => ixD_N hb
  simp only [dN] at x1 x2
  by_cases c : lo = up
  · rw [mrg_same (m3' c)]
    have e : c_merged [.tup (L.map dN), dN a, dN b] h = gc h (.ok (.tup (L.map dN)) h) := by
      unfold c_merged fsem
      simp [m_merged, x1, x2, m1, m2, c, -List.getD_eq_getElem?_getD]
    rw [e, gc_same (by simp)]
  · have l0 : ∀ h, lc_merged_1 [some (.tup (L.map dN)), some (dN a), some (dN b), some (dN lo), some (dN up), none] h = .ok (.ref h.length) (h ++ [.lst ((mrg L a b).map dN)]) := by
      intro h
      unfold lc_merged_1
      rw [eLc_map (φ := dN) L (fun c => dN (if c = up then lo else c)) (h1 := h) (iVal_tup (by simp)) (by rw [sizeLine_eq]; omega)]
      · rw [m4, List.map_map]; rfl
      · intro x hx
        by_cases q : x = up
        · simp [wipeE, q]
        · simp [wipeE, q]
    simp only [dN] at l0
    have e : c_merged [.tup (L.map dN), dN a, dN b] h = gc h (.ok (.tup ((mrg L a b).map dN)) (h ++ [.lst ((mrg L a b).map dN)])) := by
      unfold c_merged fsem
      simp [m_merged, x1, x2, m1, m2, c, l0, -List.getD_eq_getElem?_getD]
    rw [e, gc_app (by simp)]
end Law

set_option maxHeartbeats 1000000
namespace Law
open PySem Rf L2
/-! finer -/
def Fin (L M : List Nat) : Prop := ∀ k, k < L.length → M.getD k 0 = M.getD (L.getD k 0) 0
theorem fin_iff {L M : List Nat} (C : Canon L) : Fin L M ↔ ∀ i j, i < L.length → j < L.length → L.getD i 0 = L.getD j 0 → M.getD i 0 = M.getD j 0 := by
  constructor
  · intro h i j hi hj e
    rw [h i hi, h j hj, e]
  · intro h k hk
    have c := C k hk
    exact h k _ hk (by omega) c.2.symm
theorem cAll_bls {r : Nat} {bs : List Bool} {h : AH} (e : h[r]? = some (.lst (bs.map D.bl))) : cAll [.ref r] h = .ok (.bl (bs.all id)) h := by
  simp [cAll, Rf.listOf, e]
theorem finer_spec {L M : List Nat} {n : Nat} (C : Canon L) (lL : L.length = n) (lM : M.length = n) (hn : n ≤ 1000) {h : AH} :
    ∃ b : Bool, c_finer [.tup (L.map dN), .tup (M.map dN)] h = .ok (.bl b) h ∧ (b = true ↔ Fin L M) := by
  obtain ⟨bs, hbs⟩ : ∃ bs : List Bool, bs = (List.range n).map fun k => M.getD k 0 == M.getD (L.getD k 0) 0 := ⟨_, rfl⟩
  refine ⟨bs.all id, ?_, ?_⟩
  · have lc : lc_finer_1 [some (.tup (L.map dN)), some (.tup (M.map dN)), none, none] h = .ok (.ref h.length) (h ++ [.lst (bs.map D.bl)]) := by
      unfold lc_finer_1
      rw [eLc_gen (fun k => .bl (M.getD k 0 == M.getD (L.getD k 0) 0)) (iEnum2_tup (ds := L.map dN) (h1 := h) rfl) (by rw [numD_len, sizeLine_eq]; simp; omega) (fun i d hd => ?_)]
      · rw [numD_len, List.length_map, lL, hbs, List.map_map]; rfl
      · rw [numD_at, List.getElem?_map] at hd
        have hi : i < L.length := by
          cases q : L[i]? with
          | none => rw [q] at hd; cases hd
          | some z => exact (List.getElem?_eq_some_iff.mp q).1
        rw [getD_some (a := 0) hi] at hd
        have hd := Option.some.inj hd
        subst hd
        have c := C i hi
        have x1 : ∀ h, ixD (M.map dN) (i : Int) h = .ok (dN (M.getD i 0)) h := fun h => ixD_N (by omega)
        have x2 : ∀ h, ixD (M.map dN) (L.getD i 0 : Nat) h = .ok (dN (M.getD (L.getD i 0) 0)) h := fun h => ixD_N (by omega)
        refine ⟨[some (.tup (L.map dN)), some (.tup (M.map dN)), some (dN i), some (dN (L.getD i 0))], ?_, ?_⟩
        · simp [wipeE, dN]
        · generalize L.getD i 0 = a at *
          generalize M.getD i 0 = u at *
          generalize M.getD a 0 = v at *
          simp only [dN] at x1 x2 ⊢
          simp [x1, x2]
    have e : c_finer [.tup (L.map dN), .tup (M.map dN)] h = gc h (.ok (.bl (bs.all id)) (h ++ [.lst (bs.map D.bl)])) := by
      unfold c_finer fsem
      have ca : cAll [.ref h.length] (h ++ [.lst (bs.map D.bl)]) = .ok (.bl (bs.all id)) (h ++ [.lst (bs.map D.bl)]) := cAll_bls (by simp)
      generalize bs.all id = b at *
      generalize bs.map D.bl = bd at *
      simp [m_finer, lc, ca]
    rw [e, gc_app rfl]
  · rw [hbs, List.all_map, List.all_eq_true]
    constructor
    · intro a k hk
      have := a k (List.mem_range.mpr (by omega))
      simpa using this
    · intro a k hk
      have := a k (by rw [List.mem_range] at hk; omega)
      simpa using this
end Law

set_option maxHeartbeats 1000000
namespace Law
open PySem Rf L2
theorem lfiner_spec {L M : List Nat} {n : Nat} (lL : L.length = n) (lM : M.length = n) (hn : n ≤ 1000) {h : AH} :
    ∃ b : Bool, c__law_finer [.tup (L.map dN), .tup (M.map dN)] h = .ok (.bl b) h ∧ (b = true ↔ ∀ i j, i < n → j < i → L.getD i 0 = L.getD j 0 → M.getD i 0 = M.getD j 0) := by
  have xL : ∀ i, i < n → ∀ h, ixD (L.map dN) (i : Int) h = .ok (dN (L.getD i 0)) h := fun i hi h => ixD_N (by omega)
  have xM : ∀ i, i < n → ∀ h, ixD (M.map dN) (i : Int) h = .ok (dN (M.getD i 0)) h := fun i hi h => ixD_N (by omega)
  have lLd : (L.map dN).length = n := by simp [lL]
  have w := loopN_ret (k := 2) (b := lb__law_finer_1)
    (fun k e h' => ∃ x2 x3, e = [some (.tup (L.map dN)), some (.tup (M.map dN)), x2, x3] ∧ h = h' ∧ ∀ i j, i < k → j < i → L.getD i 0 = L.getD j 0 → M.getD i 0 = M.getD j 0)
    (fun d h' => d = .bl false ∧ h = h' ∧ ∃ i j, i < n ∧ j < i ∧ L.getD i 0 = L.getD j 0 ∧ M.getD i 0 ≠ M.getD j 0) n (e := [some (.tup (L.map dN)), some (.tup (M.map dN)), none, none]) (h := h)
    ⟨none, none, rfl, rfl, fun i j hi => by omega⟩ (by
      rintro i e h' hi ⟨x2, x3, rfl, rfl, ok⟩
      have w2 := loopN_ret (k := 3) (b := lb__law_finer_2)
        (fun k e h' => ∃ x3, e = [some (.tup (L.map dN)), some (.tup (M.map dN)), some (dN i), x3] ∧ h = h' ∧ ∀ j, j < k → L.getD i 0 = L.getD j 0 → M.getD i 0 = M.getD j 0)
        (fun d h' => d = .bl false ∧ h = h' ∧ ∃ j, j < i ∧ L.getD i 0 = L.getD j 0 ∧ M.getD i 0 ≠ M.getD j 0) i (e := [some (.tup (L.map dN)), some (.tup (M.map dN)), some (dN i), x3]) (h := h)
        ⟨x3, rfl, rfl, fun j hj => by omega⟩ (by
          rintro j e h' hj ⟨x3, rfl, rfl, ok2⟩
          have a1 := xL i hi
          have a2 := xL j (by omega)
          have a3 := xM i hi
          have a4 := xM j (by omega)
          simp only [dN] at a1 a2 a3 a4
          by_cases c1 : L.getD i 0 = L.getD j 0
          · by_cases c2 : M.getD i 0 = M.getD j 0
            · refine .inl ⟨[some (.tup (L.map dN)), some (.tup (M.map dN)), some (dN i), some (dN j)], h, ?_, _, rfl, rfl, fun t ht e => ?_⟩
              · generalize L.getD i 0 = u at *
                generalize L.getD j 0 = v at *
                generalize M.getD i 0 = u2 at *
                generalize M.getD j 0 = v2 at *
                generalize L.map dN = Ld at *
                generalize M.map dN = Md at *
                subst c1 c2
                simp [lb__law_finer_2, dN, a1, a2, a3, a4]
              · by_cases q : t = j
                · rw [q]; exact c2
                · exact ok2 t (by omega) e
            · refine .inr ⟨.bl false, h, ?_, rfl, rfl, j, hj, c1, c2⟩
              generalize L.getD i 0 = u at *
              generalize L.getD j 0 = v at *
              generalize M.getD i 0 = u2 at *
              generalize M.getD j 0 = v2 at *
              generalize L.map dN = Ld at *
              generalize M.map dN = Md at *
              subst c1
              have c2' : ¬ (u2 : Int) = (v2 : Int) := by omega
              simp [lb__law_finer_2, dN, a1, a2, a3, a4, c2, c2']
          · refine .inl ⟨[some (.tup (L.map dN)), some (.tup (M.map dN)), some (dN i), some (dN j)], h, ?_, _, rfl, rfl, fun t ht e => ?_⟩
            · generalize L.getD i 0 = u at *
              generalize L.getD j 0 = v at *
              generalize L.map dN = Ld at *
              generalize M.map dN = Md at *
              have c1' : ¬ (u : Int) = (v : Int) := by omega
              simp [lb__law_finer_2, dN, a1, a2, a3, a4, c1, c1']
            · by_cases q : t = j
              · rw [q] at e; exact absurd e c1
              · exact ok2 t (by omega) e)
      have r1 : RgB (i : Int) := rgB_nat (by omega)
      rcases w2 with ⟨e', h', w2, x3', rfl, rfl, ok2⟩ | ⟨d, h', w2, rfl, rfl, j, hj, c1, c2⟩
      · refine .inl ⟨[some (.tup (L.map dN)), some (.tup (M.map dN)), some (dN i), x3'], h, ?_, _, _, rfl, rfl, fun a b ha hb e => ?_⟩
        · simp only [dN] at w2
          generalize L.map dN = Ld at *
          generalize M.map dN = Md at *
          simp [lb__law_finer_1, dN, r1, rg_zero, w2]
        · by_cases q : a = i
          · subst q; exact ok2 b hb e
          · exact ok a b (by omega) hb e
      · refine .inr ⟨.bl false, h, ?_, rfl, rfl, i, j, hi, hj, c1, c2⟩
        simp only [dN] at w2
        generalize L.map dN = Ld at *
        generalize M.map dN = Md at *
        simp [lb__law_finer_1, dN, r1, rg_zero, w2])
  have r1 : RgB (n : Int) := rgB_nat (by omega)
  rcases w with ⟨e', h', w, x2, x3, rfl, rfl, ok⟩ | ⟨d, h', w, rfl, rfl, i, j, hi, hj, c1, c2⟩
  · refine ⟨true, ?_, by simpa using ok⟩
    have e : c__law_finer [.tup (L.map dN), .tup (M.map dN)] h = gc h (.ok (.bl true) h) := by
      unfold c__law_finer fsem
      generalize L.map dN = Ld at *
      generalize M.map dN = Md at *
      simp [m__law_finer, lLd, r1, rg_zero, w]
    rw [e, gc_same rfl]
  · refine ⟨false, ?_, by simp; exact ⟨i, hi, j, hj, c1, c2⟩⟩
    have e : c__law_finer [.tup (L.map dN), .tup (M.map dN)] h = gc h (.ok (.bl false) h) := by
      unfold c__law_finer fsem
      generalize L.map dN = Ld at *
      generalize M.map dN = Md at *
      simp [m__law_finer, lLd, r1, rg_zero, w]
    rw [e, gc_same rfl]
end Law

set_option maxHeartbeats 1000000
namespace Law
open PySem Rf L2
section
variable {κ : Type} [DecidableEq κ]
theorem valG_set (kvs : List (κ × D)) (k k' : κ) (d : D) : valG (setG kvs k d) k' = if k' = k then some d else valG kvs k' := by
  unfold setG
  by_cases q : (kvs.any fun kv => decide (kv.1 = k)) = true
  · rw [if_pos q]
    induction kvs with
    | nil => simp at q
    | cons kv kvs ih =>
      by_cases e : kv.1 = k
      · by_cases e' : k' = k
        · subst e'; simp [valG, e]
        · rw [if_neg e']
          have nk : ¬ k = k' := fun z => e' z.symm
          have nk2 : ¬ kv.1 = k' := fun z => e' (z.symm.trans e)
          simp only [List.map_cons, if_pos e, valG, List.find?_cons, decide_eq_false nk2, decide_eq_false nk]
          clear ih q
          induction kvs with
          | nil => rfl
          | cons a kvs ih =>
            by_cases e2 : a.1 = k
            · have : ¬ a.1 = k' := fun z => nk (e2.symm.trans z)
              simpa [List.find?_cons, e2, nk, this] using ih
            · by_cases e3 : a.1 = k' <;> simp_all [List.find?_cons]
      · have q' : (kvs.any fun kv => decide (kv.1 = k)) = true := by simpa [e] using q
        have ih := ih q'
        by_cases e2 : kv.1 = k'
        · have : ¬ k' = k := fun z => e (e2.trans z)
          simp [valG, e2, this]
        · simp only [valG] at ih ⊢
          simp only [List.map_cons, if_neg e, List.find?_cons, decide_eq_false e2]
          exact ih
  · rw [if_neg q]
    have no : ∀ kv ∈ kvs, ¬ kv.1 = k := fun kv hk e => q (List.any_eq_true.mpr ⟨kv, hk, decide_eq_true e⟩)
    clear q
    induction kvs with
    | nil =>
      by_cases e : k' = k
      · subst e; simp [valG]
      · have : ¬ k = k' := fun z => e z.symm
        simp [valG, e, this]
    | cons kv kvs ih =>
      have ih := ih fun kv hk => no kv (by simp [hk])
      by_cases e2 : kv.1 = k'
      · have : ¬ k' = k := fun z => no kv (by simp) (e2.trans z)
        simp [valG, e2, this]
      · simp only [valG] at ih ⊢
        simp only [List.cons_append, List.find?_cons, decide_eq_false e2]
        exact ih
theorem setG_len (kvs : List (κ × D)) (k : κ) (d : D) : (setG kvs k d).length ≤ kvs.length + 1 := by
  unfold setG
  split <;> simp
end
section
variable {r : Nat} {kvs : List (List Key × D)} {h : AH} {k : List Key} {x : D}
theorem dictT_ref (e : h[r]? = some (.dT kvs)) : dictT h (.ref r) = some kvs := by simp [dictT, e]
theorem tnotinK (e : h[r]? = some (.dT kvs)) (hx : tupK x = some k) : oTNotIn x (.ref r) h = .ok (.bl (!(valG kvs k).isSome)) h := by
  unfold oTNotIn
  rw [dictT_ref e, hx]
theorem tgetK (e : h[r]? = some (.dT kvs)) (hx : tupK x = some k) {d : D} (v : valG kvs k = some d) : oTGet (.ref r) x h = .ok d h := by
  unfold oTGet
  rw [dictT_ref e, hx]
  simp only [v]
theorem putTK (e : h[r]? = some (.dT kvs)) (hx : tupK x = some k) (l : kvs.length < sizeLine) (d : D) : putT (.ref r) x d h = some (h.set r (.dT (setG kvs k d))) := by
  unfold putT
  rw [dictT_ref e, hx]
  simp only [l, if_true]
end
def kN (a b : Nat) : List Key := [.inl (a : Int), .inl (b : Int)]
theorem tupK_N (a b : Nat) : tupK (.tup [.int (a : Int), .int (b : Int)]) = some (kN a b) := rfl
theorem kN_inj {a b c d : Nat} (e : kN a b = kN c d) : a = c ∧ b = d := by
  unfold kN at e
  simp only [List.cons.injEq, Sum.inl.injEq, and_true] at e
  exact ⟨by omega, by omega⟩
/-- the first that is together with i in both -/
def fst2 (L M : List Nat) (i : Nat) : Nat := ((List.range (i + 1)).find? fun j => L.getD j 0 == L.getD i 0 && M.getD j 0 == M.getD i 0).getD i
def mtL (L M : List Nat) (n : Nat) : List Nat := (List.range n).map (fst2 L M)
theorem fst2_spec (L M : List Nat) (i : Nat) : fst2 L M i ≤ i ∧ (L.getD (fst2 L M i) 0 = L.getD i 0 ∧ M.getD (fst2 L M i) 0 = M.getD i 0) ∧ ∀ j, j < fst2 L M i → ¬ (L.getD j 0 = L.getD i 0 ∧ M.getD j 0 = M.getD i 0) := by
  unfold fst2
  cases q : (List.range (i + 1)).find? fun j => L.getD j 0 == L.getD i 0 && M.getD j 0 == M.getD i 0 with
  | none =>
    rw [List.find?_eq_none] at q
    have := q i (List.mem_range.mpr (by omega))
    simp at this
  | some j =>
    rw [List.find?_range_eq_some] at q
    obtain ⟨b, hj, mn⟩ := q
    rw [List.mem_range] at hj
    refine ⟨by simp; omega, by simpa using b, fun t ht z => ?_⟩
    have := mn t (by simpa using ht)
    rw [z.1, z.2] at this
    simp at this
theorem fst2_eq {L M : List Nat} {i j : Nat} (h1 : L.getD i 0 = L.getD j 0) (h2 : M.getD i 0 = M.getD j 0) : fst2 L M i = fst2 L M j := by
  obtain ⟨a1, a2, a3⟩ := fst2_spec L M i
  obtain ⟨b1, b2, b3⟩ := fst2_spec L M j
  by_cases c : fst2 L M i < fst2 L M j
  · exact absurd ⟨a2.1.trans h1, a2.2.trans h2⟩ (b3 _ c)
  · by_cases d : fst2 L M j < fst2 L M i
    · exact absurd ⟨b2.1.trans h1.symm, b2.2.trans h2.symm⟩ (a3 _ d)
    · omega
end Law

set_option maxHeartbeats 1000000
namespace Law
open PySem Rf L2
theorem meet_spec {L M : List Nat} {n : Nat} (lL : L.length = n) (lM : M.length = n) (hn : n ≤ 1000) {h : AH} : c_meet_labels [.tup (L.map dN), .tup (M.map dN)] h = .ok (.tup ((mtL L M n).map dN)) h := by
  obtain ⟨e', h', w, x4, x5, x6, kv, rfl, rfl, lk, hk⟩ := sFor_enumT (m := eVar 0) (g := Rf.gTup 2 (Rf.gCons (gVar 4) (Rf.gCons (gVar 5) gNils))) (b := lb_meet_labels_1) (ds := L.map dN)
    (fun i e h' => ∃ (x4 x5 x6 : Option D) (kv : List (List Key × D)), e = [some (.tup (L.map dN)), some (.tup (M.map dN)), some (.ref h.length), some (.ref (h.length + 1)), x4, x5, x6] ∧ h' = HN h [.dT kv, .lst ((mtL L M i).map dN)] ∧ kv.length ≤ i ∧
      ∀ a b, (∀ j, j < i → L.getD j 0 = a → M.getD j 0 = b → valG kv (kN a b) = some (dN (fst2 L M j))) ∧ ((∀ j, j < i → ¬ (L.getD j 0 = a ∧ M.getD j 0 = b)) → valG kv (kN a b) = none))
    (e := [some (.tup (L.map dN)), some (.tup (M.map dN)), some (.ref h.length), some (.ref (h.length + 1)), none, none, none]) (h := HN h [.dT [], .lst []]) (h1 := HN h [.dT [], .lst []]) rfl ⟨none, none, none, [], rfl, rfl, by simp, fun a b => ⟨fun j hj => by omega, fun _ => rfl⟩⟩ (by
      rintro i d e h' hd ⟨x4, x5, x6, kv, rfl, rfl, lk, hk⟩
      have hi : i < L.length := by have := (List.getElem?_eq_some_iff.mp hd).1; simpa using this
      have ed : d = dN (L.getD i 0) := by
        rw [List.getElem?_map, getD_some (a := 0) hi] at hd
        exact (Option.some.inj hd).symm
      subst ed
      have xM : ∀ h, ixD (M.map dN) (i : Int) h = .ok (dN (M.getD i 0)) h := fun h => ixD_N (by omega)
      have em : (mtL L M (i + 1)).map dN = (mtL L M i).map dN ++ [dN (fst2 L M i)] := by unfold mtL; rw [List.range_succ, List.map_append, List.map_append]; rfl
      have ap : ∀ r v h, appO (some (.lst ((mtL L M i).map dN))) r v h = .ok .non (h.set r (.lst ((mtL L M i).map dN ++ [v]))) := fun r v h => appO_lst (by simp [mtL, sizeLine_eq]; omega)
      obtain ⟨f1, f2, f3⟩ := fst2_spec L M i
      obtain ⟨k1, k2⟩ := hk (L.getD i 0) (M.getD i 0)
      by_cases c : fst2 L M i < i
      · have v := k1 _ c f2.1 f2.2
        have e0 : fst2 L M (fst2 L M i) = fst2 L M i := fst2_eq f2.1 f2.2
        rw [e0] at v
        have ni := tnotinK (r := h.length) (h := HN h [.dT kv, .lst ((mtL L M i).map dN)]) (kvs := kv) (by simp) (tupK_N (L.getD i 0) (M.getD i 0))
        have tg := tgetK (r := h.length) (h := HN h [.dT kv, .lst ((mtL L M i).map dN)]) (kvs := kv) (by simp) (tupK_N (L.getD i 0) (M.getD i 0)) v
        rw [v] at ni
        refine ⟨[some (.tup (L.map dN)), some (.tup (M.map dN)), some (.ref h.length), some (.ref (h.length + 1)), some (dN i), some (dN (L.getD i 0)), some (.tup [dN (L.getD i 0), dN (M.getD i 0)])], HN h [.dT kv, .lst ((mtL L M (i + 1)).map dN)], ?_, _, _, _, kv, rfl, rfl, by omega, fun a b => ⟨fun j hj ea eb => ?_, fun no => (hk a b).2 fun j hj => no j (by omega)⟩⟩
        · rw [em]
          generalize (mtL L M i).map dN = md at *
          generalize L.getD i 0 = a at *
          generalize M.getD i 0 = b at *
          generalize fst2 L M i = f at *
          generalize L.map dN = Ld at *
          generalize M.map dN = Md at *
          simp only [dN] at xM tg
          simp [lb_meet_labels_1, dN, xM, ni, tg, ap]
        · by_cases q : j = i
          · subst q; rw [← ea, ← eb]; exact v
          · exact (hk a b).1 j (by omega) ea eb
      · have fi : fst2 L M i = i := by omega
        have v := k2 fun j hj z => f3 j (by omega) z
        have ni := tnotinK (r := h.length) (h := HN h [.dT kv, .lst ((mtL L M i).map dN)]) (kvs := kv) (by simp) (tupK_N (L.getD i 0) (M.getD i 0))
        rw [v] at ni
        have pt := putTK (r := h.length) (h := HN h [.dT kv, .lst ((mtL L M i).map dN)]) (kvs := kv) (by simp) (tupK_N (L.getD i 0) (M.getD i 0)) (by rw [sizeLine_eq]; omega) (dN i)
        obtain ⟨kv2, hkv2⟩ : ∃ kv2, kv2 = setG kv (kN (L.getD i 0) (M.getD i 0)) (dN i) := ⟨_, rfl⟩
        rw [← hkv2] at pt
        have v2 : valG kv2 (kN (L.getD i 0) (M.getD i 0)) = some (dN i) := by rw [hkv2, valG_set, if_pos rfl]
        have tg := tgetK (r := h.length) (h := HN h [.dT kv2, .lst ((mtL L M i).map dN)]) (kvs := kv2) (by simp) (tupK_N (L.getD i 0) (M.getD i 0)) v2
        have ne : ∀ a b, ¬ (L.getD i 0 = a ∧ M.getD i 0 = b) → valG kv2 (kN a b) = valG kv (kN a b) := fun a b q => by
          rw [hkv2, valG_set, if_neg fun e => q ⟨(kN_inj e).1.symm, (kN_inj e).2.symm⟩]
        refine ⟨[some (.tup (L.map dN)), some (.tup (M.map dN)), some (.ref h.length), some (.ref (h.length + 1)), some (dN i), some (dN (L.getD i 0)), some (.tup [dN (L.getD i 0), dN (M.getD i 0)])], HN h [.dT kv2, .lst ((mtL L M (i + 1)).map dN)], ?_, _, _, _, kv2, rfl, rfl, by rw [hkv2]; have := setG_len kv (kN (L.getD i 0) (M.getD i 0)) (dN i); omega, fun a b => ⟨fun j hj ea eb => ?_, fun no => ?_⟩⟩
        · rw [em, fi]
          clear hkv2 hk k1 k2 ne v2 v
          generalize (mtL L M i).map dN = md at *
          generalize L.getD i 0 = a at *
          generalize M.getD i 0 = b at *
          generalize L.map dN = Ld at *
          generalize M.map dN = Md at *
          simp only [dN] at xM tg pt
          simp [lb_meet_labels_1, dN, xM, ni, tg, ap, pt]
        · by_cases q : L.getD i 0 = a ∧ M.getD i 0 = b
          · obtain ⟨rfl, rfl⟩ := q
            rw [v2, fst2_eq ea eb, fi]
          · rw [ne a b q]
            have : j ≠ i := fun z => q (by rw [← z]; exact ⟨ea, eb⟩)
            exact (hk a b).1 j (by omega) ea eb
        · rw [ne a b (no i (by omega))]
          exact (hk a b).2 fun j hj => no j (by omega))
  rw [List.length_map, lL] at w
  have e : c_meet_labels [.tup (L.map dN), .tup (M.map dN)] h = gc h (.ok (.tup ((mtL L M n).map dN)) (HN h [.dT kv, .lst ((mtL L M n).map dN)])) := by
    unfold c_meet_labels fsem
    have eD : ∀ e h, eDictT e h = .ok (.ref h.length) (h ++ [.dT []]) := fun _ _ => rfl
    have st : h ++ [AO.dT [], AO.lst []] = HN h [.dT [], .lst []] := rfl
    generalize (mtL L M n).map dN = md at *
    generalize L.map dN = Ld at *
    generalize M.map dN = Md at *
    simp [m_meet_labels, eD, st, w]
  rw [e, gc_HN (by simp)]
end Law

set_option maxHeartbeats 1000000
namespace Law
open PySem Rf L2
theorem lmeet_1 {L M : List Nat} {n i : Nat} (lL : L.length = n) (lM : M.length = n) (hn : n ≤ 1000) (hi : i < n) {x2 x4 : Option D} {h : AH} : lc__law_meet_1 [some (.tup (L.map dN)), some (.tup (M.map dN)), x2, some (dN i), x4] h = .ok (.ref h.length) (h ++ [.lst (((List.range (i + 1)).filter fun j => L.getD j 0 == L.getD i 0 && M.getD j 0 == M.getD i 0).map dN)]) := by
  unfold lc__law_meet_1
  have r1 : (i : Int) + 1 = ((i + 1 : Nat) : Int) := by omega
  rw [eLc_pure (φ := dN) (List.range (i + 1)) (fun j => L.getD j 0 == L.getD i 0 && M.getD j 0 == M.getD i 0) dN (h1 := h) (iRange1_nat (by simp [dN]) (by omega)) (by rw [sizeLine_eq]; simp; omega) (fun j hj => ?_) (fun j hj _ => by simp [wipeE, dN])]
  rw [List.mem_range] at hj
  have a1 : ∀ h, ixD (L.map dN) (i : Int) h = .ok (dN (L.getD i 0)) h := fun h => ixD_N (by omega)
  have a2 : ∀ h, ixD (L.map dN) (j : Int) h = .ok (dN (L.getD j 0)) h := fun h => ixD_N (by omega)
  have a3 : ∀ h, ixD (M.map dN) (i : Int) h = .ok (dN (M.getD i 0)) h := fun h => ixD_N (by omega)
  have a4 : ∀ h, ixD (M.map dN) (j : Int) h = .ok (dN (M.getD j 0)) h := fun h => ixD_N (by omega)
  simp only [dN] at a1 a2 a3 a4
  generalize L.getD i 0 = u at *
  generalize L.getD j 0 = v at *
  generalize M.getD i 0 = u2 at *
  generalize M.getD j 0 = v2 at *
  generalize L.map dN = Ld at *
  generalize M.map dN = Md at *
  by_cases c : v = u <;> simp [wipeE, dN, a1, a2, a3, a4, c]
end Law

set_option maxHeartbeats 1000000
namespace Law
open PySem Rf L2
theorem fst2_min (L M : List Nat) (i : Nat) : minI ((((List.range (i + 1)).filter fun j => L.getD j 0 == L.getD i 0 && M.getD j 0 == M.getD i 0)).map fun j : Nat => (j : Int)) = (fst2 L M i : Int) ∧ 0 < ((((List.range (i + 1)).filter fun j => L.getD j 0 == L.getD i 0 && M.getD j 0 == M.getD i 0)).map fun j : Nat => (j : Int)).length := by
  obtain ⟨f1, f2, f3⟩ := fst2_spec L M i
  generalize hl : ((List.range (i + 1)).filter fun j => L.getD j 0 == L.getD i 0 && M.getD j 0 == M.getD i 0) = l
  have mem : fst2 L M i ∈ l := by
    rw [← hl, List.mem_filter, List.mem_range]
    exact ⟨by omega, by rw [f2.1, f2.2]; simp⟩
  have all : ∀ x ∈ l, fst2 L M i ≤ x := fun x hx => by
    rw [← hl, List.mem_filter] at hx
    have b := hx.2
    simp only [Bool.and_eq_true, beq_iff_eq] at b
    by_cases c : x < fst2 L M i
    · exact absurd b (f3 x c)
    · omega
  have pos : 0 < (l.map fun j : Nat => (j : Int)).length := by rw [List.length_map]; exact List.length_pos_of_mem mem
  refine ⟨?_, pos⟩
  have a := minI_le (l := l.map fun j : Nat => (j : Int)) (y := (fst2 L M i : Int)) (List.mem_map.mpr ⟨_, mem, rfl⟩)
  obtain ⟨x, hx, ex⟩ := List.mem_map.mp (minI_mem pos)
  have := all x hx
  omega
theorem cMinL_ref {r : Nat} {ns : List Int} {h : AH} (e : h[r]? = some (.lst (ns.map D.int))) (l : 0 < ns.length) : cMinL [.ref r] h = .ok (.int (minI ns)) h := by
  simp [cMinL, Rf.listOf, e, l]
end Law

set_option maxHeartbeats 1000000
namespace Law
open PySem Rf L2
theorem lmeet_spec {L M : List Nat} {n : Nat} (lL : L.length = n) (lM : M.length = n) (hn : n ≤ 1000) {h : AH} : c__law_meet [.tup (L.map dN), .tup (M.map dN)] h = .ok (.tup ((mtL L M n).map dN)) h := by
  obtain ⟨e', h', w, x3, x4, g, rfl, rfl⟩ := loopN (k := 3) (b := lb__law_meet_1)
    (fun i e h' => ∃ (x3 x4 : Option D) (g : AH), e = [some (.tup (L.map dN)), some (.tup (M.map dN)), some (.ref h.length), x3, x4] ∧ h' = HN h (.lst ((mtL L M i).map dN) :: g))
    n (e := [some (.tup (L.map dN)), some (.tup (M.map dN)), some (.ref h.length), none, none]) (h := HN h [.lst []]) ⟨none, none, [], rfl, rfl⟩ (by
      rintro i e h' hi ⟨x3, x4, g, rfl, rfl⟩
      have em : (mtL L M (i + 1)).map dN = (mtL L M i).map dN ++ [.int (fst2 L M i : Nat)] := by unfold mtL; rw [List.range_succ, List.map_append, List.map_append]; rfl
      have ap : ∀ r v h, appO (some (.lst ((mtL L M i).map dN))) r v h = .ok .non (h.set r (.lst ((mtL L M i).map dN ++ [v]))) := fun r v h => appO_lst (by simp [mtL, sizeLine_eq]; omega)
      obtain ⟨m1, m2⟩ := fst2_min L M i
      have lc := lmeet_1 (x2 := some (.ref h.length)) (x4 := x4) lL lM hn hi (h := HN h (.lst ((mtL L M i).map dN) :: g))
      generalize hl : ((List.range (i + 1)).filter fun j => L.getD j 0 == L.getD i 0 && M.getD j 0 == M.getD i 0) = l at *
      have ld : l.map dN = (l.map fun j : Nat => (j : Int)).map D.int := by rw [List.map_map]; rfl
      have cm : cMinL [.ref (h.length + (g.length + 1))] (HN h (.lst ((mtL L M i).map dN) :: (g ++ [.lst (l.map dN)]))) = .ok (.int (fst2 L M i : Nat)) (HN h (.lst ((mtL L M i).map dN) :: (g ++ [.lst (l.map dN)]))) := by
        rw [cMinL_ref (ns := l.map fun j : Nat => (j : Int)) (by rw [HN_k, ← ld]; simp) m2, m1]
      refine ⟨[some (.tup (L.map dN)), some (.tup (M.map dN)), some (.ref h.length), some (dN i), x4], HN h (.lst ((mtL L M (i + 1)).map dN) :: (g ++ [.lst (l.map dN)])), ?_, some (dN i), x4, g ++ [.lst (l.map dN)], rfl, rfl⟩
      rw [em]
      rw [HN_app, HN_len] at lc
      simp only [List.cons_append, List.length_cons] at lc
      generalize (mtL L M i).map dN = md at *
      generalize l.map dN = ld at *
      generalize fst2 L M i = f at *
      generalize L.map dN = Ld at *
      generalize M.map dN = Md at *
      generalize h.length + (g.length + 1) = R at *
      simp [lb__law_meet_1, lc, cm, ap])
  have r1 : RgB (n : Int) := rgB_nat (by omega)
  have lLd : (L.map dN).length = n := by simp [lL]
  have e : c__law_meet [.tup (L.map dN), .tup (M.map dN)] h = gc h (.ok (.tup ((mtL L M n).map dN)) (HN h (.lst ((mtL L M n).map dN) :: g))) := by
    unfold c__law_meet fsem
    have st : h ++ [AO.lst []] = HN h [.lst []] := rfl
    generalize (mtL L M n).map dN = md at *
    generalize L.map dN = Ld at *
    generalize M.map dN = Md at *
    simp [m__law_meet, st, lLd, r1, rg_zero, w]
  rw [e, gc_HN (by simp)]
end Law

set_option maxHeartbeats 1000000
namespace Law
open PySem Rf L2
/-- the join: one pair after another -/
def jnL (L M : List Nat) (i : Nat) : List Nat := (List.range i).foldl (fun R k => mrg R k (M.getD k 0)) L
theorem jnL_succ (L M : List Nat) (i : Nat) : jnL L M (i + 1) = mrg (jnL L M i) i (M.getD i 0) := by
  unfold jnL
  rw [List.range_succ, List.foldl_append]; rfl
theorem jnL_len (L M : List Nat) (i : Nat) : (jnL L M i).length = L.length := by
  induction i with
  | zero => rfl
  | succ i ih => rw [jnL_succ, mrg_len, ih]
end Law

set_option maxHeartbeats 1000000
namespace Law
open PySem Rf L2
theorem join_spec {L M : List Nat} {n : Nat} (lL : L.length = n) (lM : M.length = n) (CM : Canon M) (hn : n ≤ 1000) {h : AH} : c_join_labels [.tup (L.map dN), .tup (M.map dN)] h = .ok (.tup ((jnL L M n).map dN)) h := by
  obtain ⟨e', h', w, x3, x4, rfl, rfl⟩ := sFor_enumT (m := eVar 1) (g := Rf.gTup 2 (Rf.gCons (gVar 3) (Rf.gCons (gVar 4) gNils))) (b := lb_join_labels_1) (ds := M.map dN)
    (fun i e h' => ∃ (x3 x4 : Option D), e = [some (.tup (L.map dN)), some (.tup (M.map dN)), some (.tup ((jnL L M i).map dN)), x3, x4] ∧ h = h')
    (e := [some (.tup (L.map dN)), some (.tup (M.map dN)), some (.tup (L.map dN)), none, none]) (h := h) (h1 := h) rfl ⟨none, none, rfl, rfl⟩ (by
      rintro i d e h' hd ⟨x3, x4, rfl, rfl⟩
      have hi : i < M.length := by have := (List.getElem?_eq_some_iff.mp hd).1; simpa using this
      have ed : d = dN (M.getD i 0) := by
        rw [List.getElem?_map, getD_some (a := 0) hi] at hd
        exact (Option.some.inj hd).symm
      subst ed
      have c := CM i hi
      have ms := merged_spec (L := jnL L M i) (a := i) (b := M.getD i 0) (by rw [jnL_len]; omega) (by rw [jnL_len]; omega) (by rw [jnL_len]; omega) (h := h)
      rw [← jnL_succ] at ms
      refine ⟨[some (.tup (L.map dN)), some (.tup (M.map dN)), some (.tup ((jnL L M (i + 1)).map dN)), some (dN i), some (dN (M.getD i 0))], h, ?_, _, _, rfl, rfl⟩
      generalize (jnL L M (i + 1)).map dN = A at *
      generalize (jnL L M i).map dN = B at *
      generalize M.getD i 0 = m at *
      generalize L.map dN = Ld at *
      generalize M.map dN = Md at *
      simp only [dN] at ms
      simp [lb_join_labels_1, dN, ms])
  rw [List.length_map, lM] at w
  have e : c_join_labels [.tup (L.map dN), .tup (M.map dN)] h = gc h (.ok (.tup ((jnL L M n).map dN)) h) := by
    unfold c_join_labels fsem
    generalize (jnL L M n).map dN = A at *
    generalize L.map dN = Ld at *
    generalize M.map dN = Md at *
    simp [m_join_labels, w]
  rw [e, gc_same (by simp)]
end Law

set_option maxHeartbeats 1000000
namespace Law
open PySem Rf L2
theorem ljoin_spec {L M : List Nat} {n : Nat} (lL : L.length = n) (lM : M.length = n) (CM : Canon M) (hn : n ≤ 1000) {h : AH} : c__law_join [.tup (L.map dN), .tup (M.map dN)] h = .ok (.tup ((jnL L M n).map dN)) h := by
  obtain ⟨e', h', w, x3, x4, x5, x6, j, g, rfl, rfl, gj⟩ := loopN (k := 3) (b := lb__law_join_1)
    (fun i e h' => ∃ (x3 x4 x5 x6 : Option D) (j : Nat) (g : AH), e = [some (.tup (L.map dN)), some (.tup (M.map dN)), some (.ref (h.length + j)), x3, x4, x5, x6] ∧ h' = HN h g ∧ g[j]? = some (.lst ((jnL L M i).map dN)))
    n (e := [some (.tup (L.map dN)), some (.tup (M.map dN)), some (.ref (h.length + 0)), none, none, none, none]) (h := HN h [.lst (L.map dN)]) ⟨none, none, none, none, 0, [.lst (L.map dN)], rfl, rfl, rfl⟩ (by
      rintro i e h' hi ⟨x3, x4, x5, x6, j, g, rfl, rfl, gj⟩
      have c := CM i (by omega)
      have lR := jnL_len L M i
      obtain ⟨lo, up, m1, m2, _, _, m3⟩ := mrg_ends (jnL L M i) i (M.getD i 0)
      have y1 : ∀ h, ixD ((jnL L M i).map dN) (i : Int) h = .ok (dN ((jnL L M i).getD i 0)) h := fun h => ixD_N (by omega)
      have y2 : ∀ h, ixD ((jnL L M i).map dN) (M.getD i 0 : Nat) h = .ok (dN ((jnL L M i).getD (M.getD i 0) 0)) h := fun h => ixD_N (by omega)
      have y3 : ∀ h, ixD (M.map dN) (i : Int) h = .ok (dN (M.getD i 0)) h := fun h => ixD_N (by omega)
      have gh : (HN h g)[h.length + j]? = some (.lst ((jnL L M i).map dN)) := by rw [HN_k, gj]
      have lc : lc__law_join_1 [some (.tup (L.map dN)), some (.tup (M.map dN)), some (.ref (h.length + j)), some (dN i), some (.int lo), some (.int up), x6] (HN h g) = .ok (.ref (h.length + g.length)) (HN h (g ++ [.lst ((jnL L M (i + 1)).map dN)])) := by
        unfold lc__law_join_1
        rw [eLc_pureL (φ := dN) (r := h.length + j) (jnL L M i) (fun _ => true) (fun x => dN (if x = up then lo else x)) (h1 := HN h g) (by rw [iVal_ref (h1 := HN h g) (r := h.length + j) rfl gh, List.length_map]) gh (by rw [sizeLine_eq]; omega) (fun x hx => rfl) (fun x hx => by
          by_cases q : x = up
          · subst q; simp [wipeE, dN]
          · have q' : ¬ (x : Int) = (up : Int) := by omega
            simp [wipeE, dN, q, q'])]
        rw [List.filter_eq_self.mpr (by simp), jnL_succ, m3, List.map_map]
        simp
        rfl
      refine ⟨[some (.tup (L.map dN)), some (.tup (M.map dN)), some (.ref (h.length + g.length)), some (dN i), some (.int lo), some (.int up), x6], HN h (g ++ [.lst ((jnL L M (i + 1)).map dN)]), ?_, _, _, _, _, g.length, g ++ [.lst ((jnL L M (i + 1)).map dN)], rfl, rfl, by simp⟩
      clear m3 lR gj
      generalize HN h (g ++ [.lst ((jnL L M (i + 1)).map dN)]) = H2 at *
      generalize HN h g = H1 at *
      generalize h.length + g.length = R2 at *
      generalize h.length + j = R1 at *
      generalize (jnL L M i).getD (M.getD i 0) 0 = v at *
      generalize (jnL L M i).getD i 0 = u at *
      generalize M.getD i 0 = m at *
      generalize (jnL L M i).map dN = B at *
      generalize L.map dN = Ld at *
      generalize M.map dN = Md at *
      simp only [dN] at y1 y2 y3 lc
      simp [lb__law_join_1, dN, gh, y1, y2, y3, m1, m2, lc])
  have r1 : RgB (n : Int) := rgB_nat (by omega)
  have lLd : (L.map dN).length = n := by simp [lL]
  have gh : (HN h g)[h.length + j]? = some (.lst ((jnL L M n).map dN)) := by rw [HN_k, gj]
  have e : c__law_join [.tup (L.map dN), .tup (M.map dN)] h = gc h (.ok (.tup ((jnL L M n).map dN)) (HN h g)) := by
    unfold c__law_join fsem
    have st : h ++ [AO.lst (L.map dN)] = HN h [.lst (L.map dN)] := rfl
    simp only [Nat.add_zero] at w
    generalize (jnL L M n).map dN = A at *
    generalize L.map dN = Ld at *
    generalize M.map dN = Md at *
    generalize h.length + j = R at *
    simp [m__law_join, st, lLd, r1, rg_zero, w, gh]
  rw [e, gc_HN (by simp)]
end Law

set_option maxHeartbeats 1000000
namespace Law
open PySem Rf L2
theorem row_T {L : List Nat} (hl : L.length ≤ 1000) {h : AH} : c__law_is_row [.tup (L.map dN), .tup (L.map dN)] h = .ok (.bl true) h :=
  row_spec hl (by simp) (fun i hi => by rw [oIx_tup_, ixD_N hi])
theorem pair_1 {L M : List Nat} {n : Nat} (CL : Canon L) (CM : Canon M) (lL : L.length = n) (lM : M.length = n) (hn : n ≤ 1000) {x0 x1 x2 : Option D} {h : AH} :
    (onlyNx (gVar 2 (.tup [.tup (L.map dN), .tup (M.map dN)]) [x0, x1, x2] h)).then lb__law_pairs_hold_1 = .nx [x0, x1, some (.tup [.tup (L.map dN), .tup (M.map dN)])] h := by
  obtain ⟨b1, f1, i1⟩ := finer_spec CL lL lM hn (h := h)
  obtain ⟨b2, f2, i2⟩ := lfiner_spec lL lM hn (h := h)
  have eb : b1 = b2 := by
    rw [Bool.eq_iff_iff, i1, i2, fin_iff CL]
    constructor
    · intro a i j hi hj e
      exact a i j (by omega) (by omega) e
    · intro a i j hi hj e
      by_cases c : j < i
      · exact a i j (by omega) c e
      · by_cases d : i < j
        · exact (a j i (by omega) d e.symm).symm
        · rw [show i = j by omega]
  subst eb
  have ts := truth_spec b1 b1 h
  rw [beq_self_eq_true] at ts
  have m1 := meet_spec lL lM hn (h := h)
  have m2 := lmeet_spec lL lM hn (h := h)
  have r1 := row_T (L := mtL L M n) (by simp [mtL]; omega) (h := h)
  have j1 := join_spec lL lM CM hn (h := h)
  have j2 := ljoin_spec lL lM CM hn (h := h)
  have r2 := row_T (L := jnL L M n) (by rw [jnL_len]; omega) (h := h)
  generalize (jnL L M n).map dN = J at *
  generalize (mtL L M n).map dN = T at *
  generalize L.map dN = Ld at *
  generalize M.map dN = Md at *
  simp [lb__law_pairs_hold_1, f1, f2, ts, m1, m2, r1, j1, j2, r2]
theorem pairs_spec {L M : List Nat} {n : Nat} (CL : Canon L) (CM : Canon M) (lL : L.length = n) (lM : M.length = n) (hn : n ≤ 1000) {h : AH} : c__law_pairs_hold [.tup (L.map dN), .tup (M.map dN)] h = .ok (.bl true) h := by
  obtain ⟨ds, hds⟩ : ∃ ds, ds = [D.tup [.tup (L.map dN), .tup (M.map dN)], .tup [.tup (M.map dN), .tup (L.map dN)], .tup [.tup (L.map dN), .tup (L.map dN)]] := ⟨_, rfl⟩
  obtain ⟨e', h', w, x2, rfl, rfl⟩ := liveL_inv (g := gVar 2) (b := lb__law_pairs_hold_1) (r := h.length) (ds := ds) (e := [some (.tup (L.map dN)), some (.tup (M.map dN)), none]) (h := HN h [.lst ds])
    (fun i e h' => ∃ (x2 : Option D), e = [some (.tup (L.map dN)), some (.tup (M.map dN)), x2] ∧ h' = HN h [.lst ds])
    (by rintro i e h' ⟨x2, rfl, rfl⟩; rw [HN_0]; rfl) ⟨none, rfl, rfl⟩ (by
      rintro i d e h' hd ⟨x2, rfl, rfl⟩
      have mem := List.mem_of_getElem? hd
      rw [hds] at mem
      simp only [List.mem_cons, List.not_mem_nil, or_false] at mem
      rcases mem with rfl | rfl | rfl
      · exact ⟨_, _, pair_1 CL CM lL lM hn, _, rfl, rfl⟩
      · exact ⟨_, _, pair_1 CM CL lM lL hn, _, rfl, rfl⟩
      · exact ⟨_, _, pair_1 CL CL lL lL hn, _, rfl, rfl⟩)
  have e : c__law_pairs_hold [.tup (L.map dN), .tup (M.map dN)] h = gc h (.ok (.bl true) (HN h [.lst ds])) := by
    unfold c__law_pairs_hold fsem
    have st : h ++ [AO.lst [D.tup [.tup (L.map dN), .tup (M.map dN)], .tup [.tup (M.map dN), .tup (L.map dN)], .tup [.tup (L.map dN), .tup (L.map dN)]]] = HN h [.lst ds] := by rw [hds]; rfl
    have f3 : Fits 3 := fits (by decide)
    clear hds
    generalize L.map dN = Ld at *
    generalize M.map dN = Md at *
    simp [m__law_pairs_hold, f3, st, w]
  rw [e, gc_HN (by simp)]
end Law

set_option maxHeartbeats 1000000
/-! classes_of -/
namespace Law
open PySem Rf L2
def rts (L : List Nat) (i : Nat) : List Nat := (List.range i).filter fun x => L.getD x 0 == x
def rowTo (L : List Nat) (i x : Nat) : List Nat := (List.range i).filter fun k => L.getD k 0 == x
theorem rts_succ (L : List Nat) (i : Nat) : rts L (i + 1) = if L.getD i 0 = i then rts L i ++ [i] else rts L i := by
  unfold rts
  rw [List.range_succ, List.filter_append]
  by_cases c : L.getD i 0 = i
  · rw [if_pos c, List.filter_cons_of_pos (by rw [beq_iff_eq]; exact c)]; rfl
  · rw [if_neg c, List.filter_cons_of_neg (by rw [beq_iff_eq]; exact c)]; simp
theorem rowTo_succ (L : List Nat) (i x : Nat) : rowTo L (i + 1) x = if L.getD i 0 = x then rowTo L i x ++ [i] else rowTo L i x := by
  unfold rowTo
  rw [List.range_succ, List.filter_append]
  by_cases c : L.getD i 0 = x
  · rw [if_pos c, List.filter_cons_of_pos (by rw [beq_iff_eq]; exact c)]; rfl
  · rw [if_neg c, List.filter_cons_of_neg (by rw [beq_iff_eq]; exact c)]; simp
theorem rts_nodup (L : List Nat) (i : Nat) : (rts L i).Nodup := List.Pairwise.filter _ List.nodup_range
theorem mem_rts {L : List Nat} {i x : Nat} : x ∈ rts L i ↔ x < i ∧ L.getD x 0 = x := by
  unfold rts; rw [List.mem_filter, List.mem_range, beq_iff_eq]
theorem rts_le (L : List Nat) (i : Nat) : (rts L i).length ≤ i := by
  unfold rts; exact Nat.le_trans (List.length_filter_le _ _) (by simp)
theorem rowTo_le (L : List Nat) (i x : Nat) : (rowTo L i x).length ≤ i := by
  unfold rowTo; exact Nat.le_trans (List.length_filter_le _ _) (by simp)
theorem rowTo_new {L : List Nat} (C : Canon L) {i : Nat} (hi : i ≤ L.length) : rowTo L i i = [] := by
  unfold rowTo
  rw [List.filter_eq_nil_iff]
  intro k hk
  rw [List.mem_range] at hk
  have := C k (by omega)
  rw [beq_iff_eq]
  intro e
  omega
theorem keys_zip : ∀ (l : List Nat) (s : Nat), (l.zipIdx s).map (·.1) = l
  | [], _ => rfl
  | a :: l, s => by rw [List.zipIdx_cons, List.map_cons, keys_zip l (s + 1)]
theorem lk_zip {l : List Nat} {x : Nat} (hx : x ∈ l) : ∃ t, Rf.lk l.zipIdx x = some t ∧ l[t]? = some x := by
  cases q : Rf.lk l.zipIdx x with
  | none =>
    rw [Rf.lk_none, keys_zip] at q
    exact absurd hx q
  | some t =>
    refine ⟨t, rfl, ?_⟩
    unfold Rf.lk at q
    obtain ⟨p, hp, rfl⟩ := Option.map_eq_some_iff.mp q
    have m := List.mem_of_find?_eq_some hp
    have e := List.find?_some hp
    obtain ⟨a, b⟩ := p
    rw [List.mem_zipIdx_iff_getElem?] at m
    simp only [beq_iff_eq] at e
    subst e
    exact m
def fR (n : Nat) (t : Nat) : D := .ref (n + (t + 1))
/-- the dict and its rows behind the first i labels -/
def HC (h : AH) (L : List Nat) (i : Nat) : AH := HN h (.dK (Rf.encK (fR h.length) (rts L i).zipIdx) :: (rts L i).map fun x => .lst ((rowTo L i x).map dN))
theorem HC_0 {h : AH} {L : List Nat} {i : Nat} : (HC h L i)[h.length]? = some (.dK (Rf.encK (fR h.length) (rts L i).zipIdx)) := by
  unfold HC; rw [HN_0]; rfl
theorem HC_t {h : AH} {L : List Nat} {i t x : Nat} (e : (rts L i)[t]? = some x) : (HC h L i)[h.length + (t + 1)]? = some (.lst ((rowTo L i x).map dN)) := by
  unfold HC
  rw [HN_k, List.getElem?_cons_succ, List.getElem?_map, e]; rfl
theorem rows_set {L : List Nat} {i t : Nat} (lt : L.getD i 0 < i) (e : (rts L i)[t]? = some (L.getD i 0)) (a : AO) (ea : a = .lst ((rowTo L i (L.getD i 0)).map dN ++ [dN i])) :
    (((rts L i).map fun x => AO.lst ((rowTo L i x).map dN)).set t a) = (rts L (i + 1)).map fun x => AO.lst ((rowTo L (i + 1) x).map dN) := by
  have ne : ¬ L.getD i 0 = i := by omega
  rw [rts_succ, if_neg ne]
  apply List.ext_getElem?
  intro j
  have ht := (List.getElem?_eq_some_iff.mp e).1
  by_cases q : t = j
  · subst q
    rw [List.getElem?_set_self (by simpa using ht), List.getElem?_map, e, ea, Option.map_some, rowTo_succ, if_pos rfl, List.map_append]
    rfl
  · rw [List.getElem?_set_ne q, List.getElem?_map, List.getElem?_map]
    cases z : (rts L i)[j]? with
    | none => rfl
    | some y =>
      have : ¬ L.getD i 0 = y := fun w => by
        subst w
        have hj := (List.getElem?_eq_some_iff.mp z)
        have ht2 := (List.getElem?_eq_some_iff.mp e)
        exact q ((List.getElem_inj (rts_nodup L i)).mp (ht2.2.trans hj.2.symm))
      rw [Option.map_some, Option.map_some, rowTo_succ, if_neg this]
theorem cls_step {L : List Nat} (C : Canon L) (hn : L.length ≤ 1000) {h : AH} {i : Nat} (hi : i < L.length) {x0 x2 x3 x4 : Option D} :
    lb_classes_of_1 [x0, some (.ref h.length), some (dN i), some (dN (L.getD i 0)), x4] (HC h L i) = .nx [x0, some (.ref h.length), some (dN i), some (dN (L.getD i 0)), x4] (HC h L (i + 1)) := by
  have c := C i hi
  have ni : oDNotIn (.int (L.getD i 0 : Nat)) (.ref h.length) (HC h L i) = .ok (.bl (!(Rf.lk (rts L i).zipIdx (L.getD i 0)).isSome)) (HC h L i) := by
    rw [oDNotIn_ref HC_0, Rf.valD_enc]; simp
  by_cases lt : L.getD i 0 < i
  · obtain ⟨t, k1, k2⟩ := lk_zip (mem_rts.mpr ⟨lt, c.2⟩)
    rw [k1] at ni
    have g : oDGet (.ref h.length) (.int (L.getD i 0 : Nat)) (HC h L i) = .ok (.ref (h.length + (t + 1))) (HC h L i) := oDGet_ref HC_0 (by rw [Rf.valD_enc, k1]; rfl)
    have rw_ := HC_t (h := h) k2
    have ap : mAppend (.ref (h.length + (t + 1))) [dN i] (HC h L i) = .ok .non (HC h L (i + 1)) := by
      rw [mAppend_ref_, rw_, appO_lst (by rw [List.length_map, sizeLine_eq]; have := rowTo_le L i (L.getD i 0); omega)]
      congr 1
      unfold HC
      rw [HN_set_k, List.set_cons_succ, rows_set lt k2 _ rfl, rts_succ, if_neg (show ¬ L.getD i 0 = i by omega)]
    have ty : tyO ((HC h L i)[h.length + (t + 1)]?) "list" = true := by rw [rw_]; rfl
    generalize L.getD i 0 = a at *
    generalize HC h L i = H at *
    generalize HC h L (i + 1) = H2 at *
    generalize h.length = r at *
    simp only [dN] at ap
    simp [lb_classes_of_1, dN, ni, g, ty, ap, -mAppend_ref_]
  · have ei : L.getD i 0 = i := by omega
    have nk : Rf.lk (rts L i).zipIdx (L.getD i 0) = none := by
      rw [Rf.lk_none, keys_zip, ei, mem_rts]; omega
    rw [nk] at ni
    have lH : (HC h L i).length = h.length + ((rts L i).length + 1) := by unfold HC; rw [HN_len]; simp
    have st : (Rf.stK (rts L i).zipIdx i (rts L i).length) = (rts L (i + 1)).zipIdx := by
      unfold Rf.stK
      have : ¬ ((rts L i).zipIdx.any fun p => p.1 == i) = true := by
        intro q
        obtain ⟨p, hp, e⟩ := List.any_eq_true.mp q
        have : i ∈ (rts L i).zipIdx.map (·.1) := List.mem_map.mpr ⟨p, hp, by simpa using e⟩
        rw [keys_zip, mem_rts] at this
        omega
      rw [if_neg this, rts_succ, if_pos ei, List.zipIdx_append]
      simp
    have pt : putD (.ref h.length) (.int (i : Nat)) (.ref (HC h L i).length) (HC h L i ++ [.lst []]) = some (HN h (.dK (Rf.encK (fR h.length) (rts L (i + 1)).zipIdx) :: ((rts L i).map (fun x => .lst ((rowTo L i x).map dN)) ++ [.lst []]))) := by
      have e0 : (HC h L i ++ [AO.lst []])[h.length]? = some (.dK (Rf.encK (fR h.length) (rts L i).zipIdx)) := app_get_l HC_0
      rw [putD_ref e0 (by rw [Rf.encK_len, List.length_zipIdx, sizeLine_eq]; have := rts_le L i; omega)]
      have : (.ref (HC h L i).length : D) = fR h.length (rts L i).length := by rw [lH]; rfl
      rw [this, Rf.setD_enc, st]
      unfold HC
      rw [HN_app, HN_set_0]; rfl
    obtain ⟨H2, hH2⟩ : ∃ H2, H2 = HN h (.dK (Rf.encK (fR h.length) (rts L (i + 1)).zipIdx) :: ((rts L i).map (fun x => AO.lst ((rowTo L i x).map dN)) ++ [.lst []])) := ⟨_, rfl⟩
    rw [← hH2] at pt
    have nd : (rts L (i + 1))[(rts L i).length]? = some i := by rw [rts_succ, if_pos ei]; simp
    have g : oDGet (.ref h.length) (.int (i : Nat)) H2 = .ok (.ref (h.length + ((rts L i).length + 1))) H2 := by
      rw [hH2]
      refine oDGet_ref (kvs := Rf.encK (fR h.length) (rts L (i + 1)).zipIdx) (by rw [HN_0]; rfl) ?_
      rw [Rf.valD_enc]
      obtain ⟨t, k1, k2⟩ := lk_zip (mem_rts.mpr ⟨Nat.lt_succ_self i, ei⟩ : i ∈ rts L (i + 1))
      have : t = (rts L i).length := by
        have a := (List.getElem?_eq_some_iff.mp nd)
        have b := (List.getElem?_eq_some_iff.mp k2)
        exact (List.getElem_inj (rts_nodup L (i + 1))).mp (b.2.trans a.2.symm)
      rw [k1, this]; rfl
    have rw_ : H2[h.length + ((rts L i).length + 1)]? = some (.lst []) := by
      rw [hH2, HN_k, List.getElem?_cons_succ]
      rw [List.getElem?_append_right (by simp)]; simp
    have ap : mAppend (.ref (h.length + ((rts L i).length + 1))) [dN i] H2 = .ok .non (HC h L (i + 1)) := by
      rw [mAppend_ref_, rw_, appO_lst (by rw [sizeLine_eq]; simp)]
      congr 1
      rw [hH2]
      unfold HC
      rw [HN_set_k, List.set_cons_succ]
      congr 2
      rw [List.set_append_right _ _ (by simp)]
      rw [rts_succ, if_pos ei, List.map_append]
      congr 1
      · refine List.map_congr_left fun x hx => ?_
        rw [rowTo_succ, if_neg]
        have := mem_rts.mp hx
        omega
      · rw [List.map_cons, List.map_nil, rowTo_succ, if_pos ei, rowTo_new C (by omega)]
        simp
    have ty : tyO (H2[h.length + ((rts L i).length + 1)]?) "list" = true := by rw [rw_]; rfl
    clear hH2 rw_
    rw [ei] at ni
    rw [ei]
    generalize (rts L i).length = m at *
    generalize HC h L (i + 1) = H3 at *
    generalize HC h L i = H at *
    generalize h.length = r at *
    simp only [dN] at ap
    simp [lb_classes_of_1, dN, ni, pt, g, ty, ap, -mAppend_ref_]
end Law

set_option maxHeartbeats 1000000
/-! classes_of, is_rows -/
namespace Law
open PySem Rf L2
theorem zip_vals (n : Nat) : ∀ (l : List Nat) (s : Nat), (Rf.encK (fR n) (l.zipIdx s)).map (·.2) = (List.range l.length).map fun t => fR n (s + t)
  | [], _ => rfl
  | a :: l, s => by
    rw [List.zipIdx_cons]
    have ih := zip_vals n l (s + 1)
    unfold Rf.encK at ih ⊢
    rw [List.map_cons, List.map_cons, ih, List.length_cons, List.range_succ_eq_map, List.map_cons, List.map_map]
    congr 1
    refine List.map_congr_left fun t _ => ?_
    simp only [Function.comp_apply]
    congr 1
    omega
theorem rts_cls (L : List Nat) : (List.range (rts L L.length).length).map (fun t => dC (rowTo L L.length ((rts L L.length).getD t 0))) = (cls L).map dC := by
  have e : (cls L).map dC = (rts L L.length).map fun x => dC (clsOf L x) := by
    unfold cls clsTo rts
    rw [List.map_map]; rfl
  rw [e]
  apply List.ext_getElem
  · simp
  · intro i h1 h2
    have hi : i < (rts L L.length).length := by simpa using h2
    rw [List.getElem_map, List.getElem_map, List.getElem_range, getD_get hi]
    rfl
theorem classes_of_spec {L : List Nat} (C : Canon L) (hn : L.length ≤ 1000) {h : AH} : c_classes_of [.tup (L.map dN)] h = .ok (.tup ((cls L).map dC)) h := by
  obtain ⟨e', h', w, x2, x3, rfl, rfl⟩ := sFor_enumT (m := eVar 0) (g := Rf.gTup 2 (Rf.gCons (gVar 2) (Rf.gCons (gVar 3) gNils))) (b := lb_classes_of_1) (ds := L.map dN)
    (fun i e h' => ∃ (x2 x3 : Option D), e = [some (.tup (L.map dN)), some (.ref h.length), x2, x3, none] ∧ h' = HC h L i)
    (e := [some (.tup (L.map dN)), some (.ref h.length), none, none, none]) (h := HC h L 0) (h1 := HC h L 0) rfl ⟨none, none, rfl, rfl⟩ (by
      rintro i d e h' hd ⟨x2, x3, rfl, rfl⟩
      have hi : i < L.length := by have := (List.getElem?_eq_some_iff.mp hd).1; simpa using this
      have ed : d = dN (L.getD i 0) := by
        rw [List.getElem?_map, getD_some (a := 0) hi] at hd
        exact (Option.some.inj hd).symm
      subst ed
      have s := cls_step C hn hi (h := h) (x0 := some (.tup (L.map dN))) (x2 := x2) (x3 := x3) (x4 := none)
      exact ⟨[some (.tup (L.map dN)), some (.ref h.length), some (dN i), some (dN (L.getD i 0)), none], HC h L (i + 1), s, _, _, rfl, rfl⟩)
  rw [List.length_map] at w
  obtain ⟨kvs, hkvs⟩ : ∃ kvs, kvs = Rf.encK (fR h.length) (rts L L.length).zipIdx := ⟨_, rfl⟩
  have h0 : (HC h L L.length)[h.length]? = some (.dK kvs) := by rw [hkvs]; exact HC_0
  have lH : h.length < (HC h L L.length).length := (List.getElem?_eq_some_iff.mp h0).1
  have lk : eLockV 1 lc_classes_of_1 [some (.tup (L.map dN)), some (.ref h.length), x2, x3, none] (HC h L L.length) = .ok (.ref (HC h L L.length).length) (HC h L L.length ++ [.lst ((cls L).map dC)]) := by
    have := eLockV_eq (i := 1) (r := h.length) (m := lc_classes_of_1) (env := [some (.tup (L.map dN)), some (.ref h.length), x2, x3, none]) (h := HC h L L.length) (h1 := HC h L L.length ++ [.lst ((cls L).map dC)]) (kvs := kvs) (d := .ref (HC h L L.length).length) rfl h0 (by rw [List.length_append]; omega) (fun od ws => by
      unfold lc_classes_of_1
      rw [eLc_dvals (φ := fR h.length) (r := h.length) (kvs := kvs) (od := od) (ws := ws) (List.range (rts L L.length).length) (fun t => dC (rowTo L L.length ((rts L L.length).getD t 0))) rfl (List.getElem?_set_self lH)
        (by rw [hkvs, zip_vals]; simp) (by rw [List.length_range, sizeLine_eq]; have := rts_le L L.length; omega) (fun t ht => ?_)]
      · rw [rts_cls, List.length_set, List.set_append_left _ _ lH]
      · rw [List.mem_range] at ht
        have g := HC_t (h := h) (L := L) (i := L.length) (t := t) (getD_some (a := 0) ht)
        have ne : h.length ≠ h.length + (t + 1) := by omega
        have g2 : ((HC h L L.length).set h.length (.lk kvs od ws))[h.length + (t + 1)]? = some (.lst ((rowTo L L.length ((rts L L.length).getD t 0)).map dN)) := by
          rw [List.getElem?_set_ne ne, g]
        generalize (HC h L L.length).set h.length (.lk kvs od ws) = H2 at *
        simp [wipeE, fR, g2, dC, -List.getD_eq_getElem?_getD])
    rw [this, List.set_append_left _ _ lH, set_self h0]
  have e : c_classes_of [.tup (L.map dN)] h = gc h (.ok (.tup ((cls L).map dC)) (HC h L L.length ++ [.lst ((cls L).map dC)])) := by
    unfold c_classes_of fsem
    have st : h ++ [AO.dK []] = HC h L 0 := rfl
    have g : (HC h L L.length ++ [AO.lst ((cls L).map dC)])[(HC h L L.length).length]? = some (.lst ((cls L).map dC)) := by simp
    generalize HC h L L.length = H2 at *
    simp [m_classes_of, st, w, lk, g]
  rw [e]
  unfold HC
  rw [HN_app, gc_HN (by rw [pure_tup]; exact pures_map fun c _ => by simp [dC])]
theorem rows_T {cs : List (List Nat)} (hl : cs.length ≤ 1000) (hc : ∀ c ∈ cs, c.length ≤ 1000) {r : Nat} {h : AH} (hr : h[r]? = some (.lst (cs.map dC))) : c__law_is_rows [.tup (cs.map dC), .ref r] h = .ok (.bl true) h := by
  obtain ⟨e', h', w, x2, rfl, rfl⟩ := loopN (k := 2) (b := lb__law_is_rows_1)
    (fun i e h' => ∃ x2, e = [some (.tup (cs.map dC)), some (.ref r), x2] ∧ h = h')
    cs.length (e := [some (.tup (cs.map dC)), some (.ref r), none]) (h := h) ⟨none, rfl, rfl⟩ (by
      rintro i e h' hi ⟨x2, rfl, rfl⟩
      have x1 : ∀ h, ixD (cs.map dC) (i : Int) h = .ok (.tup ((cs.getD i []).map dN)) h := fun h => ixD_map (getD_some hi)
      have q := row_T (L := cs.getD i []) (hc _ (getD_mem hi)) (h := h)
      refine ⟨_, _, ?_, some (dN i), rfl, rfl⟩
      generalize (cs.getD i []).map dN = cd at *
      generalize cs.map dC = csd at *
      simp [lb__law_is_rows_1, x1, hr, q, -List.getD_eq_getElem?_getD])
  have r1 : RgB (cs.length : Int) := rgB_nat (by omega)
  have e : c__law_is_rows [.tup (cs.map dC), .ref r] h = gc h (.ok (.bl true) h) := by
    unfold c__law_is_rows fsem
    have ld : (cs.map dC).length = cs.length := by simp
    generalize cs.map dC = cd at *
    simp [m__law_is_rows, hr, ld, r1, rg_zero, w]
  rw [e, gc_same (by simp)]
end Law

set_option maxHeartbeats 1000000
/-! labels_of: what its rows must be -/
namespace Law
open PySem Rf L2
/-- a row that may follow where the points P were met -/
def RowOK (n : Nat) (P : List Nat) (d : D) : Prop := ∃ c : List Nat, d = dC c ∧ c ≠ [] ∧ (∀ x ∈ c, x < n) ∧ (P ++ c).Nodup
def GoodC (n : Nat) (cs : List (List Nat)) : Prop := (∀ c ∈ cs, c ≠ [] ∧ ∀ x ∈ c, x < n) ∧ cs.flatten.Nodup
theorem dN_inj : ∀ {a b : List Nat}, a.map dN = b.map dN → a = b
  | [], [], _ => rfl
  | [], _ :: _, e => by cases e
  | _ :: _, [], e => by cases e
  | x :: a, y :: b, e => by
    rw [List.map_cons, List.map_cons] at e
    injection e with e1 e2
    have := D.int.inj e1
    rw [dN_inj e2, show x = y by omega]
theorem dC_inj {a b : List Nat} (e : dC a = dC b) : a = b := dN_inj (D.tup.inj e)
theorem dCs_inj : ∀ {a b : List (List Nat)}, a.map dC = b.map dC → a = b
  | [], [], _ => rfl
  | [], _ :: _, e => by cases e
  | _ :: _, [], e => by cases e
  | x :: a, y :: b, e => by
    rw [List.map_cons, List.map_cons] at e
    injection e with e1 e2
    rw [dCs_inj e2, dC_inj e1]
theorem GoodC.push {n : Nat} {cs : List (List Nat)} (g : GoodC n cs) {c : List Nat} (h1 : c ≠ []) (h2 : ∀ x ∈ c, x < n) (h3 : (cs.flatten ++ c).Nodup) : GoodC n (cs ++ [c]) := by
  refine ⟨fun x hx => ?_, by simpa using h3⟩
  rcases List.mem_append.mp hx with h | h
  · exact g.1 x h
  · rw [List.mem_singleton] at h; subst h; exact ⟨h1, h2⟩
/-- where a row is wrong, the whole is -/
theorem row_no {n i : Nat} {rows : List D} {cs : List (List Nat)} {d : D} (e : rows.take i = cs.map dC) (hd : rows[i]? = some d) (no : ¬ RowOK n cs.flatten d) : ¬ ∃ cs', rows = cs'.map dC ∧ GoodC n cs' := by
  rintro ⟨cs', rfl, g⟩
  rw [← List.map_take] at e
  have ec := dCs_inj e
  rw [List.getElem?_map] at hd
  obtain ⟨c, hc, rfl⟩ := Option.map_eq_some_iff.mp hd
  have hm := List.mem_of_getElem? hc
  refine no ⟨c, rfl, (g.1 c hm).1, (g.1 c hm).2, ?_⟩
  have hi := (List.getElem?_eq_some_iff.mp hc)
  have : cs' = cs'.take i ++ (c :: cs'.drop (i + 1)) := by
    conv => lhs; rw [← List.take_append_drop i cs']
    congr 1
    rw [← hi.2]
    exact List.drop_eq_getElem_cons hi.1
  have nd := g.2
  rw [this, List.flatten_append, List.flatten_cons, ← List.append_assoc, ec] at nd
  exact (List.nodup_append.mp nd).1
theorem nodup_app_take {P c : List Nat} {k t : Nat} (nd : (P ++ c).Nodup) (hk : c[k]? = some t) : t ∉ P ++ c.take k := by
  intro m
  have hi := (List.getElem?_eq_some_iff.mp hk)
  have : c = c.take k ++ (t :: c.drop (k + 1)) := by
    conv => lhs; rw [← List.take_append_drop k c]
    congr 1
    rw [← hi.2]
    exact List.drop_eq_getElem_cons hi.1
  rw [this, ← List.append_assoc] at nd
  have := (List.nodup_append.mp nd).2.2 t m t (by simp)
  exact this rfl
/-- an item that is no index, or was met -/
theorem item_no {n k : Nat} {P M : List Nat} {ws : List D} {w : D} (e : ws.take k = M.map dN) (hw : ws[k]? = some w) (no : idx n w = none ∨ ∃ t, idx n w = some t ∧ t ∈ P ++ M) : ¬ RowOK n P (.tup ws) := by
  rintro ⟨c, ec, h1, h2, h3⟩
  have ec := D.tup.inj ec
  subst ec
  rw [← List.map_take] at e
  have em := dN_inj e
  rw [List.getElem?_map] at hw
  obtain ⟨t, ht, rfl⟩ := Option.map_eq_some_iff.mp hw
  have tn := h2 t (List.mem_of_getElem? ht)
  rcases no with no | ⟨t', q, m⟩
  · rw [idx_N, if_pos tn] at no; cases no
  · rw [idx_N, if_pos tn] at q
    have := Option.some.inj q
    subst this
    rw [← em] at m
    exact nodup_app_take h3 ht m
def metL (n : Nat) (P : List Nat) : List D := (List.range n).map fun x => D.bl (P.contains x)
theorem metL_at {n t : Nat} {P : List Nat} (ht : t < n) : (metL n P)[t]? = some (.bl (P.contains t)) := by
  unfold metL
  rw [List.getElem?_map, List.getElem?_range ht]; rfl
theorem metL_set {n t : Nat} {P : List Nat} (ht : t < n) : (metL n P).set t (.bl true) = metL n (P ++ [t]) := by
  unfold metL
  apply List.ext_getElem?
  intro j
  by_cases q : t = j
  · subst q
    rw [List.getElem?_set_self (by simpa using ht), List.getElem?_map, List.getElem?_range ht]
    simp
  · rw [List.getElem?_set_ne q, List.getElem?_map, List.getElem?_map]
    by_cases hj : j < n
    · rw [List.getElem?_range hj]
      have : ¬ j = t := fun z => q z.symm
      simp [this]
    · rw [List.getElem?_eq_none (by simp; omega)]; rfl
theorem metL_len {n : Nat} {P : List Nat} : (metL n P).length = n := by simp [metL]
theorem metL_nil (n : Nat) : (List.replicate n [D.bl false]).flatten = metL n [] := by
  unfold metL
  apply List.ext_getElem?
  intro i
  have : (List.replicate n [D.bl false]).flatten = List.replicate n (D.bl false) := by
    induction n with
    | zero => rfl
    | succ n ih => rw [List.replicate_succ, List.flatten_cons, ih, List.replicate_succ]; rfl
  rw [this, List.getElem?_replicate, List.getElem?_map]
  by_cases hi : i < n
  · rw [if_pos hi, List.getElem?_range hi]; rfl
  · rw [if_neg hi, List.getElem?_eq_none (by simp; omega)]; rfl
/-- the heap of labels_of -/
def HL (h : AH) (lab : List Nat) (n : Nat) (P : List Nat) : AH := HN h [.lst (lab.map dN), .lst [.bl false], .lst (metL n P)]
section
variable {h : AH} {lab P : List Nat} {n t : Nat} {v : Nat}
theorem HL_0 : (HL h lab n P)[h.length]? = some (.lst (lab.map dN)) := by unfold HL; rw [HN_0]; rfl
theorem HL_2 : (HL h lab n P)[h.length + 2]? = some (.lst (metL n P)) := by unfold HL; rw [HN_k]; rfl
theorem HL_s0 : (HL h lab n P).set h.length (.lst ((lab.set t v).map dN)) = HL h (lab.set t v) n P := by unfold HL; rw [HN_set_0]; rfl
theorem HL_s2 (ht : t < n) : (HL h lab n P).set (h.length + 2) (.lst ((metL n P).set t (.bl true))) = HL h lab n (P ++ [t]) := by rw [metL_set ht]; unfold HL; rw [HN_set_k]; rfl
end
def badS (h : AH) (v : D) : SR → Prop := fun o => ∃ e h', o = .exc "InvalidLabels" [("value", v)] e h' ∧ ∃ L, h' = HN h L
theorem badS_stop {h : AH} {v : D} (o : SR) (b : badS h v o) : Stop o := by
  obtain ⟨e, h, rfl, _⟩ := b; trivial
/-- the first walk over a row -/
theorem row_walk {n : Nat} {P lab : List Nat} {ws : List D} {v : D} (hv : ∀ w ∈ ws, V0 w) {x6 : Option D} {x5 : Option D} {h : AH} :
    (∃ y5 M, sLoop (gVar 5) lb_labels_of_2 ws [some v, some (dN n), some (.ref h.length), some (.ref (h.length + 2)), some (.tup ws), x5, x6] (HL h lab n P) = .nx [some v, some (dN n), some (.ref h.length), some (.ref (h.length + 2)), some (.tup ws), y5, x6] (HL h lab n (P ++ M)) ∧ ws = M.map dN ∧ (∀ x ∈ M, x < n) ∧ (P.Nodup → (P ++ M).Nodup)) ∨
    (badS h v (sLoop (gVar 5) lb_labels_of_2 ws [some v, some (dN n), some (.ref h.length), some (.ref (h.length + 2)), some (.tup ws), x5, x6] (HL h lab n P)) ∧ ¬ RowOK n P (.tup ws)) := by
  rcases loop_stop (g := gVar 5) (b := lb_labels_of_2)
    (fun k e h' => ∃ y5 M, e = [some v, some (dN n), some (.ref h.length), some (.ref (h.length + 2)), some (.tup ws), y5, x6] ∧ h' = HL h lab n (P ++ M) ∧ ws.take k = M.map dN ∧ (∀ x ∈ M, x < n) ∧ (P.Nodup → (P ++ M).Nodup))
    (fun o => badS h v o ∧ ¬ RowOK n P (.tup ws)) (fun o b => badS_stop o b.1) ws 0 [some v, some (dN n), some (.ref h.length), some (.ref (h.length + 2)), some (.tup ws), x5, x6] (HL h lab n P)
    ⟨x5, [], rfl, by rw [List.append_nil], rfl, fun x hx => absurd hx (by simp), fun z => by rwa [List.append_nil]⟩ (by
      rintro k w e h' hk ⟨y5, M, rfl, rfl, eM, lt, nd⟩
      rw [Nat.zero_add] at eM
      have i1 := fun h => index_V (hv w (List.mem_of_getElem? hk)) (n := n) (h := h)
      cases hi : idx n w with
      | none =>
        refine .inr ⟨⟨[some v, some (dN n), some (.ref h.length), some (.ref (h.length + 2)), some (.tup ws), some w, x6], HL h lab n (P ++ M), ?_, _, rfl⟩, item_no eM hk (.inl hi)⟩
        generalize HL h lab n (P ++ M) = H1 at *
        simp [lb_labels_of_2, i1, hi, dN]
      | some t =>
        obtain ⟨rfl, ht⟩ := idx_some hi
        have x1 : ∀ h, ixD (metL n (P ++ M)) (t : Int) h = .ok (.bl ((P ++ M).contains t)) h := fun h => ixD_some (metL_at ht)
        have g2 := HL_2 (h := h) (lab := lab) (P := P ++ M) (n := n)
        by_cases c : t ∈ P ++ M
        · have ct : (P ++ M).contains t = true := by simpa using c
          rw [ct] at x1
          refine .inr ⟨⟨[some v, some (dN n), some (.ref h.length), some (.ref (h.length + 2)), some (.tup ws), some (dN t), x6], HL h lab n (P ++ M), ?_, _, rfl⟩, item_no eM hk (.inr ⟨t, hi, c⟩)⟩
          clear nd ct c
          generalize metL n (P ++ M) = ml at *
          generalize HL h lab n (P ++ M) = H1 at *
          simp only [dN] at i1 hi
          simp [lb_labels_of_2, i1, hi, dN, g2, x1]
        · have ct : (P ++ M).contains t = false := by simpa using c
          rw [ct] at x1
          have pu : ∀ h', putO (some (.lst (metL n (P ++ M)))) (h.length + 2) (t : Int) (.bl true) h' = some (h'.set (h.length + 2) (.lst ((metL n (P ++ M)).set t (.bl true)))) := fun h' => putO_nat (by rw [metL_len]; exact ht)
          have s2 := HL_s2 (h := h) (lab := lab) (P := P ++ M) ht
          refine .inl ⟨[some v, some (dN n), some (.ref h.length), some (.ref (h.length + 2)), some (.tup ws), some (dN t), x6], HL h lab n (P ++ M ++ [t]), ?_, some (dN t), M ++ [t], rfl, by rw [List.append_assoc], ?_, ?_, ?_⟩
          · clear nd ct c
            generalize HL h lab n (P ++ M ++ [t]) = H2 at *
            generalize metL n (P ++ M) = ml at *
            generalize HL h lab n (P ++ M) = H1 at *
            simp only [dN] at i1 hi
            simp [lb_labels_of_2, i1, hi, dN, g2, x1, pu, s2]
          · rw [Nat.zero_add, List.take_add_one, hk, eM]; simp
          · intro x hx
            rcases List.mem_append.mp hx with q | q
            · exact lt x q
            · rw [List.mem_singleton] at q; omega
          · intro z
            rw [← List.append_assoc]
            refine List.nodup_append.mpr ⟨nd z, by simp, fun a ha b hb => ?_⟩
            rw [List.mem_singleton] at hb
            subst hb
            intro e
            subst e
            exact c ha) with ⟨e', h', w, y5, M, rfl, rfl, eM, lt, nd⟩ | ⟨b, no⟩
  · rw [Nat.zero_add, List.take_length] at eM
    exact .inl ⟨y5, M, w, eM, lt, nd⟩
  · exact .inr ⟨b, no⟩
end Law

set_option maxHeartbeats 1000000
/-! labels_of -/
namespace Law
open PySem Rf L2
def mnN (c : List Nat) : Nat := (minI (c.map fun x : Nat => (x : Int))).toNat
theorem mnN_call {c : List Nat} (h0 : c ≠ []) (h : AH) : cMinA [.tup (c.map dN)] h = .ok (dN (mnN c)) h := by
  have l : 0 < (c.map fun x : Nat => (x : Int)).length := by rw [List.length_map]; exact List.length_pos_iff.mpr h0
  have e : c.map dN = (c.map fun x : Nat => (x : Int)).map D.int := by rw [List.map_map]; rfl
  rw [e, cMinA_tup l]
  obtain ⟨y, _, ey⟩ := List.mem_map.mp (minI_mem l)
  unfold mnN dN
  rw [Int.toNat_of_nonneg (by omega)]
theorem mnN_spec {c : List Nat} (h0 : c ≠ []) : mnN c ∈ c ∧ ∀ x ∈ c, mnN c ≤ x := by
  have l : 0 < (c.map fun x : Nat => (x : Int)).length := by rw [List.length_map]; exact List.length_pos_iff.mpr h0
  obtain ⟨y, hy, ey⟩ := List.mem_map.mp (minI_mem l)
  have em : mnN c = y := by unfold mnN; omega
  refine ⟨by rw [em]; exact hy, fun x hx => ?_⟩
  have := minI_le (l := c.map fun x : Nat => (x : Int)) (y := (x : Int)) (List.mem_map.mpr ⟨x, hx, rfl⟩)
  unfold mnN; omega
def lay1 (lab c : List Nat) (v : Nat) : List Nat := c.foldl (fun l x => l.set x v) lab
theorem lay1_len : ∀ (c lab : List Nat) (v : Nat), (lay1 lab c v).length = lab.length
  | [], _, _ => rfl
  | x :: c, lab, v => by show (lay1 (lab.set x v) c v).length = _; rw [lay1_len c]; simp
theorem lay1_at : ∀ (c lab : List Nat) (v y : Nat), (∀ x ∈ c, x < lab.length) → (lay1 lab c v).getD y 0 = if y ∈ c then v else lab.getD y 0
  | [], lab, v, y, _ => by simp [lay1]
  | x :: c, lab, v, y, h => by
    show (lay1 (lab.set x v) c v).getD y 0 = _
    rw [lay1_at c (lab.set x v) v y fun z hz => by rw [List.length_set]; exact h z (by simp [hz]), getD_set (h x (by simp))]
    by_cases q : y ∈ c
    · rw [if_pos q, if_pos (by simp [q])]
    · rw [if_neg q]
      by_cases e : x = y
      · subst e; rw [if_pos rfl, if_pos (by simp)]
      · rw [if_neg e, if_neg (by simp [q]; exact fun z => e z.symm)]
def LabOK (n : Nat) (cs : List (List Nat)) (lab : List Nat) : Prop := lab.length = n ∧ (∀ c ∈ cs, ∀ x ∈ c, lab.getD x 0 = mnN c) ∧ ∀ x, x < n → x ∉ cs.flatten → lab.getD x 0 = x
theorem LabOK.push {n : Nat} {cs : List (List Nat)} {lab c : List Nat} (k : LabOK n cs lab) (lt : ∀ x ∈ c, x < n) (nd : (cs.flatten ++ c).Nodup) : LabOK n (cs ++ [c]) (lay1 lab c (mnN c)) := by
  refine ⟨by rw [lay1_len]; exact k.1, fun c' hc x hx => ?_, fun x hx no => ?_⟩
  · rw [lay1_at _ _ _ _ (by rw [k.1]; exact lt)]
    rcases List.mem_append.mp hc with q | q
    · have : x ∉ c := fun z => (List.nodup_append.mp nd).2.2 x (List.mem_flatten.mpr ⟨c', q, hx⟩) x z rfl
      rw [if_neg this]
      exact k.2.1 c' q x hx
    · rw [List.mem_singleton] at q
      subst q
      rw [if_pos hx]
  · rw [lay1_at _ _ _ _ (by rw [k.1]; exact lt)]
    simp only [List.flatten_append, List.flatten_cons, List.flatten_nil, List.append_nil, List.mem_append, not_or] at no
    rw [if_neg no.2]
    exact k.2.2 x hx no.1
/-- the second walk over a row -/
theorem row_lay {n v : Nat} {P lab c : List Nat} (ll : lab.length = n) (lt : ∀ x ∈ c, x < n) {x0 x1 x3 x4 x5 : Option D} {h : AH} :
    ∃ y5, sLoop (gVar 5) lb_labels_of_3 (c.map dN) [x0, x1, some (.ref h.length), x3, x4, x5, some (dN v)] (HL h lab n P) = .nx [x0, x1, some (.ref h.length), x3, x4, y5, some (dN v)] (HL h (lay1 lab c v) n P) := by
  obtain ⟨e', h', w, y5, rfl, rfl⟩ := loopM (k := 5) (b := lb_labels_of_3) (φ := dN)
    (fun k e h' => ∃ y5, e = [x0, x1, some (.ref h.length), x3, x4, y5, some (dN v)] ∧ h' = HL h (lay1 lab (c.take k) v) n P) c
    (e := [x0, x1, some (.ref h.length), x3, x4, x5, some (dN v)]) (h := HL h lab n P) ⟨x5, rfl, rfl⟩ (by
      rintro k t e h' hk ⟨y5, rfl, rfl⟩
      have ht := lt t (List.mem_of_getElem? hk)
      have pu : ∀ h', putO (some (.lst ((lay1 lab (c.take k) v).map dN))) h.length (t : Int) (dN v) h' = some (h'.set h.length (.lst (((lay1 lab (c.take k) v).set t v).map dN))) := fun h' => putO_N (by rw [lay1_len]; omega)
      have g0 := HL_0 (h := h) (lab := lay1 lab (c.take k) v) (P := P) (n := n)
      have s0 := HL_s0 (h := h) (lab := lay1 lab (c.take k) v) (P := P) (n := n) (t := t) (v := v)
      have el : lay1 lab (c.take (k + 1)) v = (lay1 lab (c.take k) v).set t v := by
        rw [List.take_add_one, hk]
        unfold lay1
        rw [List.foldl_append]; rfl
      refine ⟨[x0, x1, some (.ref h.length), x3, x4, some (dN t), some (dN v)], HL h (lay1 lab (c.take (k + 1)) v) n P, ?_, _, rfl, rfl⟩
      rw [el]
      generalize HL h ((lay1 lab (c.take k) v).set t v) n P = H2 at *
      generalize ((lay1 lab (c.take k) v).set t v).map dN = B at *
      generalize HL h (lay1 lab (c.take k) v) n P = H1 at *
      generalize (lay1 lab (c.take k) v).map dN = A at *
      simp only [dN] at pu
      simp [lb_labels_of_3, dN, g0, pu, s0])
  rw [List.take_length] at w
  exact ⟨y5, w⟩
theorem labels_row {n i : Nat} {rows : List D} {cs : List (List Nat)} {lab : List Nat} {d : D} (hd : Vd d) (gc_ : GoodC n cs) (lo : LabOK n cs lab) {v : D} {x4 x5 x6 : Option D} {h : AH} :
    (∃ y5 y6 c lab', lb_labels_of_1 [some v, some (dN n), some (.ref h.length), some (.ref (h.length + 2)), some d, x5, x6] (HL h lab n cs.flatten) = .nx [some v, some (dN n), some (.ref h.length), some (.ref (h.length + 2)), some d, y5, y6] (HL h lab' n (cs ++ [c]).flatten) ∧ d = dC c ∧ GoodC n (cs ++ [c]) ∧ LabOK n (cs ++ [c]) lab') ∨
    (badS h v (lb_labels_of_1 [some v, some (dN n), some (.ref h.length), some (.ref (h.length + 2)), some d, x5, x6] (HL h lab n cs.flatten)) ∧ ¬ RowOK n cs.flatten d) := by
  rcases hd with hb | ⟨ws, rfl, hl, hv⟩
  · refine .inr ⟨⟨[some v, some (dN n), some (.ref h.length), some (.ref (h.length + 2)), some d, x5, x6], HL h lab n cs.flatten, ?_, _, rfl⟩, fun ⟨c, e, _⟩ => by subst e; exact hb⟩
    generalize HL h lab n cs.flatten = H1
    cases d <;> first | exact hb.elim | simp [lb_labels_of_1]
  · cases hw : ws with
    | nil =>
      subst hw
      refine .inr ⟨⟨[some v, some (dN n), some (.ref h.length), some (.ref (h.length + 2)), some (.tup []), x5, x6], HL h lab n cs.flatten, ?_, _, rfl⟩, fun ⟨c, e, h1, _⟩ => h1 (dN_inj (D.tup.inj e).symm)⟩
      generalize HL h lab n cs.flatten = H1
      simp [lb_labels_of_1]
    | cons w0 wr =>
      have ne : ws ≠ [] := by rw [hw]; simp
      rw [← hw]
      clear hw
      have l0 : ¬ ws.length = 0 := fun z => ne (List.eq_nil_of_length_eq_zero z)
      have l1 : ¬ (ws.length : Int) = 0 := by omega
      rcases row_walk (n := n) (P := cs.flatten) (lab := lab) hv (v := v) (x5 := x5) (x6 := x6) (h := h) with ⟨y5, M, w, rfl, lt, nd⟩ | ⟨⟨e1, h1, w, kp⟩, no⟩
      · have nM : M ≠ [] := fun z => ne (by rw [z]; rfl)
        obtain ⟨z5, w2⟩ := row_lay (v := mnN M) (P := cs.flatten ++ M) lo.1 lt (x0 := some v) (x1 := some (dN n)) (x3 := some (.ref (h.length + 2))) (x4 := some (.tup (M.map dN))) (x5 := y5) (h := h)
        have mc := fun h => mnN_call nM h
        refine .inl ⟨z5, some (dN (mnN M)), M, lay1 lab M (mnN M), ?_, rfl, gc_.push nM lt (nd gc_.2), lo.push lt (nd gc_.2)⟩
        have ef : (cs ++ [M]).flatten = cs.flatten ++ M := by simp
        rw [ef]
        clear nd lo gc_ ef
        generalize HL h (lay1 lab M (mnN M)) n (cs.flatten ++ M) = H3 at *
        generalize HL h lab n (cs.flatten ++ M) = H2 at *
        generalize HL h lab n cs.flatten = H1 at *
        generalize M.map dN = Md at *
        generalize mnN M = m at *
        simp only [dN] at w w2 mc
        simp [lb_labels_of_1, dN, l0, l1, w, mc, w2]
      · refine .inr ⟨⟨e1, h1, ?_, kp⟩, no⟩
        generalize HL h lab n cs.flatten = H1 at *
        simp only [dN] at w
        simp [lb_labels_of_1, dN, l0, l1, w]
theorem labels_of_spec {n : Nat} (hn : n ≤ 1000) {rows : List D} (hr : ∀ d ∈ rows, Vd d) {h : AH} :
    (∃ cs lab, rows = cs.map dC ∧ GoodC n cs ∧ LabOK n cs lab ∧ c_labels_of [.tup rows, dN n] h = .ok (.tup (lab.map dN)) h) ∨
    ((¬ ∃ cs, rows = cs.map dC ∧ GoodC n cs) ∧ ∃ L, c_labels_of [.tup rows, dN n] h = .exc "InvalidLabels" [("value", .tup rows)] (HN h L)) := by
  have r1 : RgOk 0 (n : Int) := rgOk_nat (by omega)
  have r2 : RepOk 1 (n : Int) := repOk_1 (by omega)
  have st : HL h (List.range n) n [] = h ++ [AO.lst ((List.range n).map dN), .lst [.bl false], .lst (metL n [])] := rfl
  have mu : oMul (.ref (h.length + 1)) (.int (n : Int)) (h ++ [AO.lst ((List.range n).map dN), .lst [.bl false]]) = .ok (.ref (h.length + 2)) (HL h (List.range n) n []) := by
    rw [st, oMul_ref_]
    have : (h ++ [AO.lst ((List.range n).map dN), .lst [.bl false]])[h.length + 1]? = some (.lst [.bl false]) := by rw [app_get]; rfl
    rw [this]
    simp [r2]
    simpa using metL_nil n
  rcases loop_stop (g := gVar 4) (b := lb_labels_of_1)
    (fun i e h' => ∃ x4 x5 x6 cs lab, e = [some (.tup rows), some (dN n), some (.ref h.length), some (.ref (h.length + 2)), x4, x5, x6] ∧ h' = HL h lab n cs.flatten ∧ rows.take i = cs.map dC ∧ GoodC n cs ∧ LabOK n cs lab)
    (fun o => badS h (.tup rows) o ∧ ¬ ∃ cs, rows = cs.map dC ∧ GoodC n cs) (fun o b => badS_stop o b.1) rows 0 [some (.tup rows), some (dN n), some (.ref h.length), some (.ref (h.length + 2)), none, none, none] (HL h (List.range n) n [])
    ⟨none, none, none, [], List.range n, rfl, rfl, rfl, ⟨fun c hc => absurd hc (by simp), by simp⟩, by simp, fun c hc => absurd hc (by simp), fun x hx _ => by simp [hx]⟩ (by
      rintro i d e h' hd ⟨x4, x5, x6, cs, lab, rfl, rfl, et, g, lo⟩
      rw [Nat.zero_add] at et
      rcases labels_row (i := i) (rows := rows) (hr d (List.mem_of_getElem? hd)) g lo (v := .tup rows) (x4 := x4) (x5 := x5) (x6 := x6) (h := h) with ⟨y5, y6, c, lab', w, rfl, g', lo'⟩ | ⟨b, no⟩
      · refine .inl ⟨_, _, w, some (dC c), y5, y6, cs ++ [c], lab', rfl, rfl, ?_, g', lo'⟩
        rw [Nat.zero_add, List.take_add_one, hd, et]; simp
      · exact .inr ⟨b, row_no et hd no⟩) with ⟨e', h', w, x4, x5, x6, cs, lab, rfl, rfl, et, g, lo⟩ | ⟨⟨e1, h1, w, L, rfl⟩, no⟩
  · rw [Nat.zero_add, List.take_length] at et
    refine .inl ⟨cs, lab, et, g, lo, ?_⟩
    have g0 := HL_0 (h := h) (lab := lab) (P := cs.flatten) (n := n)
    have e : c_labels_of [.tup rows, dN n] h = gc h (.ok (.tup (lab.map dN)) (HL h lab n cs.flatten)) := by
      unfold c_labels_of fsem
      clear st et g lo
      generalize HL h lab n cs.flatten = H2 at *
      generalize lab.map dN = ld at *
      generalize HL h (List.range n) n [] = H1 at *
      simp only [dN] at w mu
      simp [m_labels_of, dN, r1, rg_zero, mu, w, g0]
    rw [e]
    unfold HL
    rw [gc_HN (by simp)]
  · refine .inr ⟨no, L, ?_⟩
    unfold c_labels_of fsem
    clear st
    generalize HL h (List.range n) n [] = H1 at *
    simp only [dN] at w mu
    simp [m_labels_of, dN, r1, rg_zero, mu, w]
theorem labels_of_B {d : D} (hb : B0 d) {n : Nat} {h : AH} : ∃ L, c_labels_of [d, dN n] h = .exc "InvalidLabels" [("value", d)] (HN h L) := by
  refine ⟨[], ?_⟩
  rw [HN_nil]
  unfold c_labels_of fsem
  cases d <;> first | exact hb.elim | simp [m_labels_of, dN]
end Law

set_option maxHeartbeats 1000000
/-! what is no tuple of classes -/
namespace Law
open PySem Rf L2
section
variable {n : Nat} {P : List Nat} {ws : List D} {odd : D} {row : List Nat} {a : Nat}
theorem rok_row (r : RowOK n P (.tup ws)) : ∀ w ∈ ws, ∃ x, x < n ∧ w = dN x := fun w hw => by
  obtain ⟨c, e, _, lt, _⟩ := r
  have e := D.tup.inj e
  subst e
  obtain ⟨x, hx, rfl⟩ := List.mem_map.mp hw
  exact ⟨x, lt x hx, rfl⟩
theorem rok_dup : ¬ RowOK n P (.tup [dN a, dN a]) := fun ⟨c, e, _, _, nd⟩ => by
  have e : ([a, a] : List Nat).map dN = c.map dN := D.tup.inj e
  have := dN_inj e
  subst this
  have := (List.nodup_append.mp nd).2.1
  simp at this
theorem rok_nil : ¬ RowOK n P (.tup []) := fun ⟨c, e, h, _, _⟩ => h (dN_inj (D.tup.inj e).symm)
theorem rok_snoc (r : RowOK n P (.tup (row.map dN ++ [odd]))) : ∃ y, odd = dN y ∧ y < n ∧ y ∉ row := by
  obtain ⟨y, hy, rfl⟩ := rok_row r odd (by simp)
  refine ⟨y, rfl, hy, fun m => ?_⟩
  obtain ⟨c, e, _, _, nd⟩ := r
  have e : (row ++ [y]).map dN = c.map dN := by rw [List.map_append]; exact D.tup.inj e
  have := dN_inj e
  subst this
  have := (List.nodup_append.mp (List.nodup_append.mp nd).2.1).2.2 y m y (by simp)
  exact this rfl
theorem rok_tup {d : D} (r : RowOK n P d) : ∃ ws, d = .tup ws := by
  obtain ⟨c, e, _⟩ := r
  exact ⟨_, e⟩
end
abbrev s0 : D := .str (Str.ofString "0")
abbrev sE : D := .str (Str.ofString "")
def oddMenu (n : Nat) : List D := [.tup [], .tup [dN n], .tup [.int (-1)], .tup [.int 0, .int 0], .tup [.non], .int 0, .tup [.bl true], s0, .non, .tup [s0], .tup [.tup [.int 0]], dN n]
theorem menu_no {n : Nat} {d : D} (h : d ∈ oddMenu n) (P : List Nat) : ¬ RowOK n P d := by
  intro r
  simp only [oddMenu, List.mem_cons, List.not_mem_nil, or_false] at h
  rcases h with rfl | rfl | rfl | rfl | rfl | rfl | rfl | rfl | rfl | rfl | rfl | rfl
  · exact rok_nil r
  · obtain ⟨x, hx, e⟩ := rok_row r _ (List.mem_singleton.mpr rfl)
    have := D.int.inj e; omega
  · obtain ⟨x, hx, e⟩ := rok_row r _ (List.mem_singleton.mpr rfl)
    have := D.int.inj e; omega
  · exact rok_dup (a := 0) r
  · obtain ⟨x, hx, e⟩ := rok_row r _ (List.mem_singleton.mpr rfl)
    cases e
  · obtain ⟨ws, e⟩ := rok_tup r; cases e
  · obtain ⟨x, hx, e⟩ := rok_row r _ (List.mem_singleton.mpr rfl)
    cases e
  · obtain ⟨ws, e⟩ := rok_tup r; cases e
  · obtain ⟨ws, e⟩ := rok_tup r; cases e
  · obtain ⟨x, hx, e⟩ := rok_row r _ (List.mem_singleton.mpr rfl)
    cases e
  · obtain ⟨x, hx, e⟩ := rok_row r _ (List.mem_singleton.mpr rfl)
    cases e
  · obtain ⟨ws, e⟩ := rok_tup r; cases e
theorem sm_N {k x : Nat} (h : x ≤ 1000) : Sm k (dN x) := by
  have : (x : Int).natAbs < 10 ^ 60 := Nat.lt_of_le_of_lt (by omega : _ ≤ 1000) (by decide)
  cases k <;> exact this
theorem sm_n1 {k : Nat} : Sm k (.int (-1)) := by
  have : (-1 : Int).natAbs < 10 ^ 60 := by decide
  cases k <;> exact this
theorem ok_of (x : Str) (B : Nat) (h : ((TL.tl x).all fun c => decide (c < 0x110000)) = true) (l : (TL.tl x).length ≤ B) : Ok B x :=
  ⟨fun c hc => of_decide_eq_true (List.all_eq_true.mp h c hc), l⟩
theorem sm_s0 {k : Nat} : Sm k s0 := by
  have : PyData.strOk (Str.ofString "0") = true ∧ Ok 61 (reprText (Str.ofString "0")) := ⟨strOk_S "0" (by decide), ok_of _ _ (by decide +kernel) (by decide +kernel)⟩
  cases k <;> exact this
theorem sm_sE {k : Nat} : Sm k sE := by
  have : PyData.strOk (Str.ofString "") = true ∧ Ok 61 (reprText (Str.ofString "")) := ⟨strOk_S "" (by decide), ok_of _ _ (by decide +kernel) (by decide +kernel)⟩
  cases k <;> exact this
theorem sm_non {k : Nat} : Sm k .non := by cases k <;> trivial
theorem sm_bl {k : Nat} {b : Bool} : Sm k (.bl b) := by cases k <;> trivial
theorem sm_tup {k : Nat} {ds : List D} (l : ds.length ≤ 40) (h : ∀ d ∈ ds, Sm k d) : Sm (k + 1) (.tup ds) := ⟨l, h⟩
theorem sm_C {k : Nat} {c : List Nat} (l : c.length ≤ 40) (h : ∀ x ∈ c, x ≤ 1000) : Sm (k + 1) (dC c) := sm_tup (by simpa using l) fun d hd => by
  obtain ⟨x, hx, rfl⟩ := List.mem_map.mp hd
  exact sm_N (h x hx)
theorem sm_one {k : Nat} {d : D} (h : Sm k d) : Sm (k + 1) (.tup [d]) := sm_tup (by simp) fun x hx => by rw [List.mem_singleton] at hx; subst hx; exact h
theorem menu_sm {n : Nat} (hn : n ≤ 1000) {d : D} (h : d ∈ oddMenu n) : Sm 2 d := by
  simp only [oddMenu, List.mem_cons, List.not_mem_nil, or_false] at h
  rcases h with rfl | rfl | rfl | rfl | rfl | rfl | rfl | rfl | rfl | rfl | rfl | rfl
  · exact sm_tup (by simp) fun d hd => absurd hd (by simp)
  · exact sm_one (sm_N hn)
  · exact sm_one sm_n1
  · exact sm_C (c := [0, 0]) (by simp) (by simp)
  · exact sm_one sm_non
  · exact sm_N (x := 0) (by omega)
  · exact sm_one sm_bl
  · exact sm_s0
  · exact sm_non
  · exact sm_one sm_s0
  · exact sm_one (sm_one (sm_N (x := 0) (by omega)))
  · exact sm_N hn
theorem v0_N {x : Nat} : V0 (dN x) := .inl trivial
theorem vd_C {c : List Nat} (l : c.length ≤ 1000) : Vd (dC c) := .inr ⟨c.map dN, rfl, by simpa using l, fun v hv => by
  obtain ⟨x, hx, rfl⟩ := List.mem_map.mp hv
  exact v0_N⟩
theorem vd_one {d : D} (h : V0 d) : Vd (.tup [d]) := .inr ⟨[d], rfl, by simp, fun v hv => by rw [List.mem_singleton] at hv; subst hv; exact h⟩
theorem menu_vd {n : Nat} {d : D} (h : d ∈ oddMenu n) : Vd d := by
  simp only [oddMenu, List.mem_cons, List.not_mem_nil, or_false] at h
  rcases h with rfl | rfl | rfl | rfl | rfl | rfl | rfl | rfl | rfl | rfl | rfl | rfl
  · exact vd_C (c := []) (by simp)
  · exact vd_one v0_N
  · exact vd_one (.inl trivial)
  · exact vd_C (c := [0, 0]) (by simp)
  · exact vd_one (.inl trivial)
  · exact .inl trivial
  · exact vd_one (.inl trivial)
  · exact .inl trivial
  · exact .inl trivial
  · exact vd_one (.inl trivial)
  · exact vd_one (.inr ⟨_, rfl, rfl⟩)
  · exact .inl trivial
/-- what labels_of must refuse -/
def Refuse (n : Nat) (v : D) : Prop := Sm 3 v ∧ (B0 v ∨ ∃ rows, v = .tup rows ∧ (∀ d ∈ rows, Vd d) ∧ ¬ ∃ cs, rows = cs.map dC ∧ GoodC n cs)
theorem Refuse.pure {n : Nat} {v : D} (r : Refuse n v) : v.pure = true := r.1.pd.pure
/-- the classes told are few and small -/
structure Told (n : Nat) (cs : List (List Nat)) : Prop where
  good : GoodC n cs
  len : cs.length ≤ 30
  row : ∀ c ∈ cs, c.length ≤ 30
theorem vd_told {n : Nat} {cs : List (List Nat)} (T : Told n cs) : ∀ d ∈ cs.map dC, Vd d ∧ (n ≤ 30 → Sm 2 d) := fun d hd => by
  obtain ⟨c, hc, rfl⟩ := List.mem_map.mp hd
  refine ⟨vd_C (by have := T.row c hc; omega), fun hn => sm_C (by have := T.row c hc; omega) fun x hx => ?_⟩
  have := (T.good.1 c hc).2 x hx
  omega
theorem Told.take {n : Nat} {cs : List (List Nat)} (T : Told n cs) (k : Nat) : Told n (cs.take k) := by
  refine ⟨⟨fun c hc => T.good.1 c (List.mem_of_mem_take hc), ?_⟩, ?_, fun c hc => T.row c (List.mem_of_mem_take hc)⟩
  · have := T.good.2
    rw [← List.take_append_drop k cs, List.flatten_append] at this
    exact (List.nodup_append.mp this).1
  · rw [List.length_take]; have := T.len; omega
theorem Told.drop {n : Nat} {cs : List (List Nat)} (T : Told n cs) (k : Nat) : Told n (cs.drop k) := by
  refine ⟨⟨fun c hc => T.good.1 c (List.mem_of_mem_drop hc), ?_⟩, ?_, fun c hc => T.row c (List.mem_of_mem_drop hc)⟩
  · have := T.good.2
    rw [← List.take_append_drop k cs, List.flatten_append] at this
    exact (List.nodup_append.mp this).2.1
  · rw [List.length_drop]; have := T.len; omega
/-- one wrong row between two parts of the told classes -/
theorem refuse_mid {n : Nat} (hn : n ≤ 30) {as bs : List (List Nat)} (A : Told n as) (B : Told n bs) (l : as.length + bs.length ≤ 30) {d : D} (sm : Sm 2 d) (vd : Vd d) (no : ¬ RowOK n as.flatten d) : Refuse n (.tup (as.map dC ++ (d :: bs.map dC))) := by
  refine ⟨sm_tup (by simp; omega) fun x hx => ?_, .inr ⟨_, rfl, fun x hx => ?_, ?_⟩⟩
  · rcases List.mem_append.mp hx with h | h
    · exact (vd_told A x h).2 hn
    · rcases List.mem_cons.mp h with rfl | h
      · exact sm
      · exact (vd_told B x h).2 hn
  · rcases List.mem_append.mp hx with h | h
    · exact (vd_told A x h).1
    · rcases List.mem_cons.mp h with rfl | h
      · exact vd
      · exact (vd_told B x h).1
  · refine row_no (i := as.length) (cs := as) (d := d) ?_ ?_ no
    · rw [List.take_append_of_le_length (by simp)]
      rw [List.take_of_length_le (by simp)]
    · rw [List.getElem?_append_right (by simp)]; simp
/-- a point told twice: alone between two parts -/
theorem refuse_twice {n : Nat} (hn : n ≤ 30) {cs : List (List Nat)} (T : Told n cs) {k x : Nat} (hx : x ∈ cs.flatten) (xn : x < n) : Refuse n (.tup ((cs.take k).map dC ++ (.tup [dN x] :: (cs.drop k).map dC))) := by
  refine ⟨sm_tup (by have := T.len; simp; omega) fun y hy => ?_, .inr ⟨_, rfl, fun y hy => ?_, ?_⟩⟩
  · rcases List.mem_append.mp hy with h | h
    · exact (vd_told (T.take k) y h).2 hn
    · rcases List.mem_cons.mp h with rfl | h
      · exact sm_one (sm_N (by omega))
      · exact (vd_told (T.drop k) y h).2 hn
  · rcases List.mem_append.mp hy with h | h
    · exact (vd_told (T.take k) y h).1
    · rcases List.mem_cons.mp h with rfl | h
      · exact vd_one v0_N
      · exact (vd_told (T.drop k) y h).1
  · rintro ⟨cs', e, g⟩
    have e : (cs.take k ++ ([x] :: cs.drop k)).map dC = cs'.map dC := by rw [← e, List.map_append]; rfl
    have := dCs_inj e
    subst this
    have nd := g.2
    rw [List.flatten_append, List.flatten_cons] at nd
    rw [← List.take_append_drop k cs, List.flatten_append] at hx
    obtain ⟨_, n2, n3⟩ := List.nodup_append.mp nd
    rcases List.mem_append.mp hx with h | h
    · exact n3 x h x (by simp) rfl
    · exact (List.nodup_append.mp n2).2.2 x (by simp) x h rfl
end Law

set_option maxHeartbeats 1000000
namespace Law
open PySem Rf L2
theorem refused_spec {n : Nat} (hn : n ≤ 1000) {v : D} (r : Refuse n v) {h : AH} : c__law_refused [v, dN n] h = .ok (.bl true) h := by
  have ⟨L, ex⟩ : ∃ L, c_labels_of [v, dN n] h = .exc "InvalidLabels" [("value", v)] (HN h L) := by
    rcases r.2 with hb | ⟨rows, rfl, hv, no⟩
    · exact labels_of_B hb
    · rcases labels_of_spec hn hv (h := h) with ⟨cs, lab, e, g, _⟩ | ⟨_, L, e⟩
      · exact absurd ⟨cs, e, g⟩ no
      · exact ⟨L, e⟩
  obtain ⟨x, k1, k2, k3⟩ := r.1.kept (by omega)
  have e : c__law_refused [v, dN n] h = gc h (.ok (.bl true) (HN h L)) := by
    unfold c__law_refused fsem
    simp only [dN] at ex
    simp [m__law_refused, dN, ex, th__law_refused_1, th__law_refused_1_InvalidLabels, k1, k2, k3]
  rw [e, gc_HN rfl]
theorem ixD_in {ds : List D} {k : Nat} (hk : k < ds.length) : ∃ v ∈ ds, ∀ h, ixD ds (k : Int) h = .ok v h := ⟨ds[k], List.getElem_mem hk, fun h => ixD_some (List.getElem?_eq_getElem hk)⟩
theorem odd_mem {n : Nat} (hn : n ≤ 30) {row : List Nat} (h0 : row ≠ []) (lr : row.length ≤ 30) (lt : ∀ x ∈ row, x < n) {d : D} (h : d ∈ [dN n, .int ((n : Int) + 1), .int (-1), .non, .bl false, s0, .tup [.int 0], dN (row.getD 0 0)]) :
    (∀ P, ¬ RowOK n P (.tup (row.map dN ++ [d]))) ∧ Sm 2 (.tup (row.map dN ++ [d])) ∧ Vd (.tup (row.map dN ++ [d])) := by
  have hm : row.getD 0 0 ∈ row := getD_mem (List.length_pos_iff.mpr h0)
  have hs : Sm 1 d ∧ V0 d ∧ ¬ ∃ y, d = dN y ∧ y < n ∧ y ∉ row := by
    simp only [List.mem_cons, List.not_mem_nil, or_false] at h
    rcases h with rfl | rfl | rfl | rfl | rfl | rfl | rfl | rfl
    · exact ⟨sm_N (by omega), v0_N, fun ⟨y, e, l, _⟩ => by have := D.int.inj e; omega⟩
    · exact ⟨sm_N (x := n + 1) (by omega), .inl trivial, fun ⟨y, e, l, _⟩ => by have := D.int.inj e; omega⟩
    · exact ⟨sm_n1, .inl trivial, fun ⟨y, e, l, _⟩ => by have := D.int.inj e; omega⟩
    · exact ⟨sm_non, .inl trivial, fun ⟨y, e, l, _⟩ => by cases e⟩
    · exact ⟨sm_bl, .inl trivial, fun ⟨y, e, l, _⟩ => by cases e⟩
    · exact ⟨sm_s0, .inl trivial, fun ⟨y, e, l, _⟩ => by cases e⟩
    · exact ⟨sm_one (sm_N (x := 0) (by omega)), .inr ⟨_, rfl, rfl⟩, fun ⟨y, e, l, _⟩ => by cases e⟩
    · exact ⟨sm_N (by have := lt _ hm; omega), v0_N, fun ⟨y, e, l, no⟩ => by
        have e := D.int.inj e
        have : row.getD 0 0 = y := by omega
        exact no (this ▸ hm)⟩
  refine ⟨fun P r => hs.2.2 (rok_snoc r), sm_tup (by simp; omega) fun x hx => ?_, .inr ⟨_, rfl, by simp; omega, fun x hx => ?_⟩⟩
  · rcases List.mem_append.mp hx with q | q
    · obtain ⟨y, hy, rfl⟩ := List.mem_map.mp q
      exact sm_N (by have := lt y hy; omega)
    · rw [List.mem_singleton] at q; subst q; exact hs.1
  · rcases List.mem_append.mp hx with q | q
    · obtain ⟨y, hy, rfl⟩ := List.mem_map.mp q
      exact v0_N
    · rw [List.mem_singleton] at q; subst q; exact hs.2.1
theorem cut_1 (xs : List D) (k : Nat) : cutD xs (some ((k : Int) + 1)) none = xs.drop (k + 1) := cutD_from xs (k + 1)
theorem no_classes_spec {n : Nat} (hn : n ≤ 30) {cs : List (List Nat)} (T : Told n cs) {h : AH} {a N : Nat} {o : AO} (ha : h[a]? = some o) (hb : Bag N o) (hN : N + 10 ≤ 1000000000) :
    ∃ v o', c__law_no_classes [.ref a, .tup (cs.map dC), dN n] h = .ok v (h.set a o') ∧ Bag (N + 10) o' ∧ Refuse n v := by
  have hal := (List.getElem?_eq_some_iff.mp ha).1
  obtain ⟨k, o1, e1, hk, B1⟩ := take_spec (s := 4) ha hb (by omega) (by omega) (by omega)
  have ha1 := get_set ha o1
  obtain ⟨c, o2, e2, hc, B2⟩ := take_spec (s := (cs.length : Int) + 1) ha1 B1 (by omega) (by omega) (by have := T.len; omega)
  rw [List.set_set] at e2
  have st : ∀ o L, h.set a o ++ L = HS h a o L := fun _ _ => rfl
  have lcs : (cs.map dC).length = cs.length := by simp
  have lT := T.len
  by_cases k0 : k = 0
  · subst k0
    obtain ⟨ds, hds⟩ : ∃ ds, ds = [D.non, sE, s0, .int 0, .bl true, .int (-1)] := ⟨_, rfl⟩
    have ha2 : (HS h a o2 [.lst ds])[a]? = some o2 := HS_a hal
    obtain ⟨j, o3, e3, hj, B3⟩ := take_spec (s := 6) ha2 B2 (by omega) (by omega) (by omega)
    rw [HS_set_a hal] at e3
    obtain ⟨v, hv, ev⟩ := ixD_in (ds := ds) (k := j) (by rw [hds]; simp; omega)
    have hr : Refuse n v := by
      rw [hds] at hv
      simp only [List.mem_cons, List.not_mem_nil, or_false] at hv
      rcases hv with rfl | rfl | rfl | rfl | rfl | rfl
      · exact ⟨sm_non, .inl trivial⟩
      · exact ⟨sm_sE, .inl trivial⟩
      · exact ⟨sm_s0, .inl trivial⟩
      · exact ⟨sm_N (x := 0) (by omega), .inl trivial⟩
      · exact ⟨sm_bl, .inl trivial⟩
      · exact ⟨sm_n1, .inl trivial⟩
    refine ⟨v, o3, ?_, B3.mono (by omega), hr⟩
    have f6 : Fits ds.length := fits (by rw [hds]; simp)
    have e : c__law_no_classes [.ref a, .tup (cs.map dC), dN n] h = gc h (.ok v (HS h a o3 [.lst ds])) := by
      unfold c__law_no_classes fsem
      generalize cs.map dC = cd at *
      simp [m__law_no_classes, dN, e1, e2, lcs, f6, ← hds, st, e3, ev]
    rw [e, gc_HS hr.pure B3.flat]
  · by_cases k1 : k = 1
    · subst k1
      obtain ⟨ds, hds⟩ : ∃ ds, ds = oddMenu n := ⟨_, rfl⟩
      have ha2 : (HS h a o2 [.lst ds])[a]? = some o2 := HS_a hal
      obtain ⟨j, o3, e3, hj, B3⟩ := take_spec (s := 12) ha2 B2 (by omega) (by omega) (by omega)
      rw [HS_set_a hal] at e3
      obtain ⟨v, hv, ev⟩ := ixD_in (ds := ds) (k := j) (by rw [hds]; simp [oddMenu]; omega)
      rw [hds] at hv
      have hr := refuse_mid hn (T.take c) (T.drop c) (by simp; omega) (menu_sm (by omega) hv) (menu_vd hv) (menu_no hv _)
      refine ⟨_, o3, ?_, B3.mono (by omega), hr⟩
      have f12 : Fits ds.length := fits (by rw [hds]; simp [oddMenu])
      obtain ⟨A, hA⟩ : ∃ A, A = (cs.take c).map dC := ⟨_, rfl⟩
      obtain ⟨B, hB⟩ : ∃ B, B = (cs.drop c).map dC := ⟨_, rfl⟩
      have cA : cutD (cs.map dC) none (some (c : Int)) = A := by rw [cutD_to, hA, List.map_take]
      have cB : cutD (cs.map dC) (some (c : Int)) none = B := by rw [cutD_from, hB, List.map_drop]
      have lA : A.length ≤ 30 := by rw [hA]; simp; omega
      have lB : B.length ≤ 30 := by rw [hB]; simp; omega
      have f1 : Fits (A.length + 1) := fits (by omega)
      have f2 : Fits (A.length + 1 + B.length) := fits (by omega)
      have f3 : Fits (A.length + (1 + B.length)) := fits (by omega)
      have e : c__law_no_classes [.ref a, .tup (cs.map dC), dN n] h = gc h (.ok (.tup (A ++ (v :: B))) (HS h a o3 [.lst ds])) := by
        unfold c__law_no_classes fsem
        simp only [oddMenu, dN] at hds
        clear hA hB hr
        generalize cs.map dC = cd at *
        simp [m__law_no_classes, dN, e1, e2, lcs, f12, ← hds, st, e3, ev, cA, cB, f1, f2, f3]
      rw [e, hA, hB, gc_HS hr.pure B3.flat]
    · by_cases z : cs.length = 0
      · have zc : cs = [] := List.eq_nil_of_length_eq_zero z
        subst zc
        have hr : Refuse n (.tup [.tup [.int 0, .int 0]]) := refuse_mid hn T T (by simp) (sm_C (c := [0, 0]) (by simp) (by simp)) (vd_C (c := [0, 0]) (by simp)) (rok_dup (a := 0))
        refine ⟨_, o2, ?_, B2.mono (by omega), hr⟩
        have k0' : ¬ (k : Int) = 0 := by omega
        have k1' : ¬ (k : Int) = 1 := by omega
        have e : c__law_no_classes [.ref a, .tup ([].map dC), dN n] h = gc h (.ok (.tup [.tup [.int 0, .int 0]]) (HS h a o2 [])) := by
          unfold c__law_no_classes fsem
          rw [HS_nil]
          simp only [List.length_nil] at e2
          simp at e2
          simp [m__law_no_classes, dN, e1, e2, k0, k1, k0', k1']
        rw [e, gc_HS hr.pure B2.flat, ]
      · have ha2 := get_set ha o2
        obtain ⟨t, o3, e3, ht, B3⟩ := take_spec (s := (cs.length : Int)) ha2 B2 (by omega) (by omega) (by omega)
        rw [List.set_set] at e3
        have ha3 := get_set ha o3
        have htl : t < cs.length := by omega
        obtain ⟨row, hrow⟩ : ∃ row, row = cs.getD t [] := ⟨_, rfl⟩
        have mrow : row ∈ cs := by rw [hrow]; exact getD_mem htl
        have g := T.good.1 row mrow
        have lr := T.row row mrow
        have pr := List.length_pos_iff.mpr g.1
        have xt : ∀ h, ixD (cs.map dC) (t : Int) h = .ok (.tup (row.map dN)) h := fun h => by rw [hrow]; exact ixD_map (getD_some htl)
        have k0' : ¬ (k : Int) = 0 := by omega
        have k1' : ¬ (k : Int) = 1 := by omega
        have z' : ¬ (cs.length : Int) = 0 := by omega
        have lrd : (row.map dN).length = row.length := by simp
        by_cases k2 : k = 2
        · subst k2
          obtain ⟨j, o4, e4, hj, B4⟩ := take_spec (s := (row.length : Int)) ha3 B3 (by omega) (by omega) (by omega)
          rw [List.set_set] at e4
          have xj : ∀ h, ixD (row.map dN) (j : Int) h = .ok (dN (row.getD j 0)) h := fun h => ixD_N (by omega)
          have hx : row.getD j 0 ∈ row := getD_mem (by omega)
          have hr := refuse_twice hn T (k := c) (x := row.getD j 0) (List.mem_flatten.mpr ⟨row, mrow, hx⟩) (g.2 _ hx)
          refine ⟨_, o4, ?_, B4.mono (by omega), hr⟩
          obtain ⟨A, hA⟩ : ∃ A, A = (cs.take c).map dC := ⟨_, rfl⟩
          obtain ⟨B, hB⟩ : ∃ B, B = (cs.drop c).map dC := ⟨_, rfl⟩
          have cA : cutD (cs.map dC) none (some (c : Int)) = A := by rw [cutD_to, hA, List.map_take]
          have cB : cutD (cs.map dC) (some (c : Int)) none = B := by rw [cutD_from, hB, List.map_drop]
          have lA : A.length ≤ 30 := by rw [hA]; simp; omega
          have lB : B.length ≤ 30 := by rw [hB]; simp; omega
          have f1 : Fits (A.length + 1) := fits (by omega)
          have f2 : Fits (A.length + 1 + B.length) := fits (by omega)
          have f3 : Fits (A.length + (1 + B.length)) := fits (by omega)
          have e : c__law_no_classes [.ref a, .tup (cs.map dC), dN n] h = gc h (.ok (.tup (A ++ (.tup [dN (row.getD j 0)] :: B))) (HS h a o4 [])) := by
            unfold c__law_no_classes fsem
            rw [HS_nil]
            clear hA hB hr hrow hx mrow
            generalize row.getD j 0 = x at *
            generalize row.map dN = rd at *
            generalize cs.map dC = cd at *
            simp only [dN] at xj
            simp [m__law_no_classes, dN, e1, e2, e3, lcs, k0, k1, k0', k1', z', z, xt, xj, lrd, e4, cA, cB, f1, f2, f3]
          rw [e, hA, hB, gc_HS hr.pure B4.flat]
        · have k2' : ¬ (k : Int) = 2 := by omega
          have x0 : ∀ h, ixD (row.map dN) 0 h = .ok (dN (row.getD 0 0)) h := fun h => ixD_N (i := 0) pr
          obtain ⟨ds, hds⟩ : ∃ ds, ds = [dN n, .int ((n : Int) + 1), .int (-1), .non, .bl false, s0, .tup [.int 0], dN (row.getD 0 0)] := ⟨_, rfl⟩
          have ha4 : (HS h a o3 [.lst ds])[a]? = some o3 := HS_a hal
          obtain ⟨j, o4, e4, hj, B4⟩ := take_spec (s := 8) ha4 B3 (by omega) (by omega) (by omega)
          rw [HS_set_a hal] at e4
          obtain ⟨v, hv, ev⟩ := ixD_in (ds := ds) (k := j) (by rw [hds]; simp; omega)
          rw [hds] at hv
          obtain ⟨q1, q2, q3⟩ := odd_mem hn g.1 lr g.2 hv
          have hr := refuse_mid hn (T.take t) (T.drop (t + 1)) (by simp; omega) q2 q3 (q1 _)
          refine ⟨_, o4, ?_, B4.mono (by omega), hr⟩
          have f8 : Fits ds.length := fits (by rw [hds]; simp)
          have fr : Fits (row.length + 1) := fits (by omega)
          obtain ⟨A, hA⟩ : ∃ A, A = (cs.take t).map dC := ⟨_, rfl⟩
          obtain ⟨B, hB⟩ : ∃ B, B = (cs.drop (t + 1)).map dC := ⟨_, rfl⟩
          have cA : cutD (cs.map dC) none (some (t : Int)) = A := by rw [cutD_to, hA, List.map_take]
          have cB : cutD (cs.map dC) (some ((t : Int) + 1)) none = B := by rw [cut_1, hB, List.map_drop]
          have lA : A.length ≤ 30 := by rw [hA]; simp; omega
          have lB : B.length ≤ 30 := by rw [hB]; simp; omega
          have f1 : Fits (A.length + 1) := fits (by omega)
          have f2 : Fits (A.length + 1 + B.length) := fits (by omega)
          have f3 : Fits (A.length + (1 + B.length)) := fits (by omega)
          have e : c__law_no_classes [.ref a, .tup (cs.map dC), dN n] h = gc h (.ok (.tup (A ++ (.tup (row.map dN ++ [v]) :: B))) (HS h a o4 [.lst ds])) := by
            unfold c__law_no_classes fsem
            simp only [dN] at hds
            clear hA hB hr hrow mrow q1 q2 q3 hv
            generalize row.getD 0 0 = x at *
            generalize row.map dN = rd at *
            generalize cs.map dC = cd at *
            simp only [dN] at x0
            simp [m__law_no_classes, dN, e1, e2, e3, lcs, k0, k1, k2, k0', k1', k2', z', z, xt, x0, lrd, f8, ← hds, st, e4, ev, fr, cA, cB, f1, f2, f3]
          rw [e, hA, hB, gc_HS hr.pure B4.flat]
end Law

set_option maxHeartbeats 1000000
/-! the classes told -/
namespace Law
open PySem Rf L2
theorem cls_row {L : List Nat} (C : Canon L) {c : List Nat} (hc : c ∈ cls L) : c ≠ [] ∧ mnN c = c.getD 0 0 ∧ ∀ x ∈ c, L.getD x 0 = mnN c ∧ x < L.length := by
  unfold cls clsTo at hc
  obtain ⟨r, hr, rfl⟩ := List.mem_map.mp hc
  rw [List.mem_filter, List.mem_range, beq_iff_eq] at hr
  have hm : r ∈ clsOf L r := mem_clsOf.mpr ⟨hr.1, hr.2⟩
  have ne : clsOf L r ≠ [] := List.ne_nil_of_mem hm
  obtain ⟨m1, m2⟩ := mnN_spec ne
  have q1 := m2 r hm
  have q2 := mem_clsOf.mp m1
  have q3 := C _ q2.1
  have e : mnN (clsOf L r) = r := by omega
  refine ⟨ne, ?_, fun x hx => ?_⟩
  · have hd : (clsOf L r).getD 0 0 ∈ clsOf L r := getD_mem (List.length_pos_iff.mpr ne)
    have h1 := m2 _ hd
    have pw : (clsOf L r).Pairwise (· < ·) := List.Pairwise.filter _ List.pairwise_lt_range
    cases hc : clsOf L r with
    | nil => exact absurd hc ne
    | cons h t =>
      rw [hc] at hm pw h1 e
      show mnN (h :: t) = h
      have h1 : mnN (h :: t) ≤ h := h1
      rcases List.mem_cons.mp hm with z | z
      · omega
      · have := (List.pairwise_cons.mp pw).1 r z
        omega
  · have := mem_clsOf.mp hx
    exact ⟨by omega, this.1⟩
theorem sel_good {n : Nat} {cs : List (List Nat)} (S : CS n cs) {ts : List Nat} (nd : ts.Nodup) (lt : ∀ t ∈ ts, t < cs.length) : GoodC n (ts.map fun t => cs.getD t []) := by
  refine ⟨fun c hc => ?_, ?_⟩
  · obtain ⟨t, ht, rfl⟩ := List.mem_map.mp hc
    have h := lt t ht
    refine ⟨fun z => ?_, fun x hx => ?_⟩
    · have := (S.pos t h).1
      rw [z] at this
      simp at this
    · obtain ⟨k, hk, rfl⟩ := mem_getD (d := 0) hx
      exact S.lt t k h hk
  · rw [List.Nodup, List.pairwise_flatten]
    refine ⟨fun c hc => ?_, ?_⟩
    · obtain ⟨t, ht, rfl⟩ := List.mem_map.mp hc
      have h := lt t ht
      rw [List.pairwise_iff_getElem]
      intro i j hi hj hij e
      have := (S.inj t i t j h hi h hj (by rw [getD_get hi, getD_get hj]; exact e)).2
      omega
    · rw [List.pairwise_map]
      refine List.Pairwise.imp_of_mem (fun {a b} ha hb hab => ?_) nd
      intro x hx y hy e
      subst e
      obtain ⟨k, hk, ek⟩ := mem_getD (d := 0) hx
      obtain ⟨j, hj, ej⟩ := mem_getD (d := 0) hy
      exact hab (S.inj a k b j (lt a ha) hk (lt b hb) hj (ek.trans ej.symm)).1
theorem lab_eq {n : Nat} {cs : List (List Nat)} {l1 l2 : List Nat} (a : LabOK n cs l1) (b : LabOK n cs l2) : l1 = l2 := ext_getD (a.1.trans b.1.symm) fun x hx => by
  rw [a.1] at hx
  by_cases q : x ∈ cs.flatten
  · obtain ⟨c, hc, hxc⟩ := List.mem_flatten.mp q
    rw [a.2.1 c hc x hxc, b.2.1 c hc x hxc]
  · rw [a.2.2 x hx q, b.2.2 x hx q]
theorem lab_all {L : List Nat} (C : Canon L) {lab : List Nat} (a : LabOK L.length (cls L).reverse lab) : lab = L := ext_getD a.1 fun x hx => by
  rw [a.1] at hx
  obtain ⟨t, k, ht, hk, e⟩ := (cs_cls C).cov x hx
  have hc : (cls L).getD t [] ∈ cls L := getD_mem ht
  have hx' : x ∈ (cls L).getD t [] := by rw [← e]; exact getD_mem hk
  rw [a.2.1 _ (List.mem_reverse.mpr hc) x hx', ((cls_row C hc).2.2 x hx').1]
theorem rev_good {L : List Nat} (C : Canon L) : GoodC L.length (cls L).reverse := by
  have g := sel_good (cs_cls C) (ts := List.range (cls L).length) List.nodup_range (fun t ht => List.mem_range.mp ht)
  have e : (List.range (cls L).length).map (fun t => (cls L).getD t []) = cls L := by
    apply List.ext_getElem
    · simp
    · intro i h1 h2
      rw [List.getElem_map, List.getElem_range, getD_get h2]
  rw [e] at g
  exact ⟨fun c hc => g.1 c (List.mem_reverse.mp hc), by
    have p : (cls L).reverse.flatten.Perm (cls L).flatten := (List.reverse_perm (cls L)).flatten
    exact p.nodup_iff.mpr g.2⟩
theorem isP_nodup {n : Nat} {p : List Nat} (P : IsP n p) : p.Nodup := by
  rw [List.Nodup, List.pairwise_iff_getElem]
  intro i j hi hj hij e
  have l := P.len
  have := P.inj i j (by omega) (by omega) (by rw [getD_get hi, getD_get hj]; exact e)
  omega
/-- what is told after some of the classes -/
structure TS (L : List Nat) (p : List Nat) (i : Nat) (ts due : List Nat) : Prop where
  sub : ts.Sublist (p.take i)
  lab : LabOK L.length (ts.map fun t => (cls L).getD t []) due
theorem TS.told {L p : List Nat} {i : Nat} {ts due : List Nat} (T : TS L p i ts due) (C : Canon L) (hn : L.length ≤ 30) (P : IsP (cls L).length p) : Told L.length (ts.map fun t => (cls L).getD t []) := by
  have S := cs_cls C
  have nd : ts.Nodup := T.sub.nodup ((List.take_sublist i p).nodup (isP_nodup P))
  have lt : ∀ t ∈ ts, t < (cls L).length := fun t ht => by
    have := List.mem_of_mem_take (T.sub.subset ht)
    obtain ⟨k, hk, rfl⟩ := mem_getD (d := 0) this
    exact P.lt k (by rw [← P.len]; exact hk)
  refine ⟨sel_good S nd lt, ?_, fun c hc => ?_⟩
  · have a := T.sub.length_le
    rw [List.length_map]
    have b := S.le
    have c := P.len
    rw [List.length_take] at a
    omega
  · obtain ⟨t, ht, rfl⟩ := List.mem_map.mp hc
    have := (S.pos t (lt t ht)).2
    omega
theorem TS.skip {L p : List Nat} {i : Nat} {ts due : List Nat} (T : TS L p i ts due) : TS L p (i + 1) ts due := ⟨T.sub.trans (by rw [List.take_add_one]; exact List.sublist_append_left _ _), T.lab⟩
theorem TS.push {L p : List Nat} {i : Nat} {ts due : List Nat} (T : TS L p i ts due) (C : Canon L) (P : IsP (cls L).length p) (hi : i < p.length) :
    TS L p (i + 1) (ts ++ [p.getD i 0]) (lay1 due ((cls L).getD (p.getD i 0) []) (((cls L).getD (p.getD i 0) []).getD 0 0)) := by
  have S := cs_cls C
  have sb : (ts ++ [p.getD i 0]).Sublist (p.take (i + 1)) := by
    rw [List.take_add_one, getD_some (a := 0) hi]
    exact T.sub.append (List.Sublist.refl _)
  have nd : (ts ++ [p.getD i 0]).Nodup := sb.nodup ((List.take_sublist _ p).nodup (isP_nodup P))
  have lt : ∀ t ∈ ts ++ [p.getD i 0], t < (cls L).length := fun t ht => by
    have := List.mem_of_mem_take (sb.subset ht)
    obtain ⟨k, hk, rfl⟩ := mem_getD (d := 0) this
    exact P.lt k (by rw [← P.len]; exact hk)
  have g := sel_good S nd lt
  have hc : (cls L).getD (p.getD i 0) [] ∈ cls L := getD_mem (lt _ (by simp))
  refine ⟨sb, ?_⟩
  rw [List.map_append, List.map_cons, List.map_nil, ← (cls_row C hc).2.1]
  refine T.lab.push (fun x hx => ((cls_row C hc).2.2 x hx).2) ?_
  have := g.2
  rw [List.map_append, List.flatten_append] at this
  simpa using this
end Law

set_option maxHeartbeats 1000000
/-! classes_hold -/
namespace Law
open PySem Rf L2
/-- its heap -/
def HH (h : AH) (a : Nat) (o : AO) (cs told : List (List Nat)) (due p : List Nat) : AH := HS h a o [.lst (cs.map dC), .lst (told.map dC), .lst (due.map dN), .lst (p.map dN)]
section
variable {h : AH} {a : Nat} {o o' : AO} {cs told told' : List (List Nat)} {due p : List Nat}
theorem HH_a (ha : a < h.length) : (HH h a o cs told due p)[a]? = some o := HS_a ha
theorem HH_0 : (HH h a o cs told due p)[h.length]? = some (.lst (cs.map dC)) := by unfold HH; rw [HS_0]; rfl
theorem HH_1 : (HH h a o cs told due p)[h.length + 1]? = some (.lst (told.map dC)) := by unfold HH; rw [HS_k]; rfl
theorem HH_2 : (HH h a o cs told due p)[h.length + 2]? = some (.lst (due.map dN)) := by unfold HH; rw [HS_k]; rfl
theorem HH_3 : (HH h a o cs told due p)[h.length + 3]? = some (.lst (p.map dN)) := by unfold HH; rw [HS_k]; rfl
theorem HH_sa (ha : a < h.length) : (HH h a o cs told due p).set a o' = HH h a o' cs told due p := HS_set_a ha
theorem HH_s1 : (HH h a o cs told due p).set (h.length + 1) (.lst (told'.map dC)) = HH h a o cs told' due p := by unfold HH; rw [HS_set_k]; rfl
theorem HH_s2 {t v : Nat} : (HH h a o cs told due p).set (h.length + 2) (.lst ((due.set t v).map dN)) = HH h a o cs told (due.set t v) p := by unfold HH; rw [HS_set_k]; rfl
end
/-- the due labels of one class -/
theorem due_walk {h : AH} {a : Nat} {o : AO} {cs told : List (List Nat)} {due p c : List Nat} {t : Nat} (hc : cs[t]? = some c) (h0 : c ≠ []) (lt : ∀ x ∈ c, x < due.length) {x0 x1 x2 x4 x7 : Option D} :
    ∃ y7, sLoop (gVar 7) lb__law_classes_hold_2 (c.map dN) [x0, x1, x2, some (.ref h.length), x4, some (.ref (h.length + 2)), some (dN t), x7] (HH h a o cs told due p) =
      .nx [x0, x1, x2, some (.ref h.length), x4, some (.ref (h.length + 2)), some (dN t), y7] (HH h a o cs told (lay1 due c (c.getD 0 0)) p) := by
  obtain ⟨e', h', w, y7, rfl, rfl⟩ := loopM (k := 7) (b := lb__law_classes_hold_2) (φ := dN)
    (fun k e h' => ∃ y7, e = [x0, x1, x2, some (.ref h.length), x4, some (.ref (h.length + 2)), some (dN t), y7] ∧ h' = HH h a o cs told (lay1 due (c.take k) (c.getD 0 0)) p) c
    (e := [x0, x1, x2, some (.ref h.length), x4, some (.ref (h.length + 2)), some (dN t), x7]) (h := HH h a o cs told due p) ⟨x7, rfl, rfl⟩ (by
      rintro k x e h' hk ⟨y7, rfl, rfl⟩
      have hx := lt x (List.mem_of_getElem? hk)
      have pu : ∀ v h', putO (some (.lst ((lay1 due (c.take k) (c.getD 0 0)).map dN))) (h.length + 2) (x : Int) (dN v) h' = some (h'.set (h.length + 2) (.lst (((lay1 due (c.take k) (c.getD 0 0)).set x v).map dN))) := fun v h' => putO_N (by rw [lay1_len]; omega)
      have g0 := HH_0 (h := h) (a := a) (o := o) (cs := cs) (told := told) (due := lay1 due (c.take k) (c.getD 0 0)) (p := p)
      have g2 := HH_2 (h := h) (a := a) (o := o) (cs := cs) (told := told) (due := lay1 due (c.take k) (c.getD 0 0)) (p := p)
      have s2 := HH_s2 (h := h) (a := a) (o := o) (cs := cs) (told := told) (due := lay1 due (c.take k) (c.getD 0 0)) (p := p) (t := x) (v := c.getD 0 0)
      have xt : ∀ h, ixD (cs.map dC) (t : Int) h = .ok (.tup (c.map dN)) h := fun h => ixD_map hc
      have xc : ∀ h, ixD (c.map dN) 0 h = .ok (dN (c.getD 0 0)) h := fun h => ixD_N (i := 0) (List.length_pos_iff.mpr h0)
      have el : lay1 due (c.take (k + 1)) (c.getD 0 0) = (lay1 due (c.take k) (c.getD 0 0)).set x (c.getD 0 0) := by
        rw [List.take_add_one, hk]
        unfold lay1
        rw [List.foldl_append]; rfl
      have pu := pu (c.getD 0 0)
      refine ⟨[x0, x1, x2, some (.ref h.length), x4, some (.ref (h.length + 2)), some (dN t), some (dN x)], HH h a o cs told (lay1 due (c.take (k + 1)) (c.getD 0 0)) p, ?_, _, rfl, rfl⟩
      rw [el]
      clear el
      generalize HH h a o cs told ((lay1 due (c.take k) (c.getD 0 0)).set x (c.getD 0 0)) p = H2 at *
      generalize ((lay1 due (c.take k) (c.getD 0 0)).set x (c.getD 0 0)).map dN = B at *
      generalize HH h a o cs told (lay1 due (c.take k) (c.getD 0 0)) p = H1 at *
      generalize (lay1 due (c.take k) (c.getD 0 0)).map dN = A at *
      generalize c.getD 0 0 = v at *
      generalize c.map dN = cd at *
      generalize cs.map dC = csd at *
      simp only [dN] at pu xc
      simp [lb__law_classes_hold_2, dN, g0, g2, xt, xc, pu, s2])
  rw [List.take_length] at w
  exact ⟨y7, w⟩
theorem told_walk {L : List Nat} (C : Canon L) (hn : L.length ≤ 30) {h : AH} {a N : Nat} {o : AO} (hal : a < h.length) (hb : Bag N o) (hN : N + 100 ≤ 1000000000) {p : List Nat} (P : IsP (cls L).length p) :
    ∃ x6 x7 o' ts due, liveL (h.length + 3) (p.map dN) (gVar 6) lb__law_classes_hold_1 [some (.ref a), some (.tup (L.map dN)), some (dN L.length), some (.ref h.length), some (.ref (h.length + 1)), some (.ref (h.length + 2)), none, none] (HH h a o (cls L) [] (List.range L.length) p) =
      .nx [some (.ref a), some (.tup (L.map dN)), some (dN L.length), some (.ref h.length), some (.ref (h.length + 1)), some (.ref (h.length + 2)), x6, x7] (HH h a o' (cls L) (ts.map fun t => (cls L).getD t []) due p) ∧ TS L p p.length ts due ∧ Bag (N + 30) o' := by
  obtain ⟨e', h', w, x6, x7, o', ts, due, rfl, rfl, T, B⟩ := liveL_inv (g := gVar 6) (b := lb__law_classes_hold_1) (r := h.length + 3) (ds := p.map dN)
    (fun i e h' => ∃ x6 x7 o' ts due, e = [some (.ref a), some (.tup (L.map dN)), some (dN L.length), some (.ref h.length), some (.ref (h.length + 1)), some (.ref (h.length + 2)), x6, x7] ∧ h' = HH h a o' (cls L) (ts.map fun t => (cls L).getD t []) due p ∧ TS L p i ts due ∧ Bag (N + i) o')
    (by rintro i e h' ⟨x6, x7, o', ts, due, rfl, rfl, T, B⟩; exact HH_3)
    (e := [some (.ref a), some (.tup (L.map dN)), some (dN L.length), some (.ref h.length), some (.ref (h.length + 1)), some (.ref (h.length + 2)), none, none]) (h := HH h a o (cls L) [] (List.range L.length) p)
    ⟨none, none, o, [], List.range L.length, rfl, rfl, ⟨by simp, by simp, fun c hc => absurd hc (by simp), fun x hx _ => by simp [hx]⟩, hb⟩ (by
      rintro i d e h' hd ⟨x6, x7, o', ts, due, rfl, rfl, T, B⟩
      have hi : i < p.length := by have := (List.getElem?_eq_some_iff.mp hd).1; simpa using this
      have ed : d = dN (p.getD i 0) := by
        rw [List.getElem?_map, getD_some (a := 0) hi] at hd
        exact (Option.some.inj hd).symm
      subst ed
      have pl := P.len
      have cl := (cs_cls C).le
      obtain ⟨k, o2, e1, hk, B1⟩ := take_spec (s := 4) (HH_a (o := o') (cs := cls L) (told := ts.map fun t => (cls L).getD t []) (due := due) (p := p) hal) B (by omega) (by omega) (by omega)
      rw [HH_sa hal] at e1
      by_cases q : k = 1
      · subst q
        refine ⟨[some (.ref a), some (.tup (L.map dN)), some (dN L.length), some (.ref h.length), some (.ref (h.length + 1)), some (.ref (h.length + 2)), some (dN (p.getD i 0)), x7], HH h a o2 (cls L) (ts.map fun t => (cls L).getD t []) due p, ?_, _, _, o2, ts, due, rfl, rfl, T.skip, B1.mono (by omega)⟩
        generalize HH h a o2 (cls L) (ts.map fun t => (cls L).getD t []) due p = H2 at *
        generalize HH h a o' (cls L) (ts.map fun t => (cls L).getD t []) due p = H1 at *
        simp [lb__law_classes_hold_1, e1, -List.getD_eq_getElem?_getD]
      · have q' : ¬ (k : Int) = 1 := by omega
        have ht : p.getD i 0 < (cls L).length := P.lt i (by omega)
        have hc := getD_some (a := []) ht
        have mc : (cls L).getD (p.getD i 0) [] ∈ cls L := getD_mem ht
        obtain ⟨c0, c1, c2⟩ := cls_row C mc
        have T2 := T.push C P hi
        obtain ⟨y7, w2⟩ := due_walk (h := h) (a := a) (o := o2) (cs := cls L) (told := (ts ++ [p.getD i 0]).map fun t => (cls L).getD t []) (due := due) (p := p) hc c0 (fun x hx => by rw [T.lab.1]; exact (c2 x hx).2)
          (x0 := some (.ref a)) (x1 := some (.tup (L.map dN))) (x2 := some (dN L.length)) (x4 := some (.ref (h.length + 1))) (x7 := x7)
        have g0 := HH_0 (h := h) (a := a) (o := o2) (cs := cls L) (told := ts.map fun t => (cls L).getD t []) (due := due) (p := p)
        have g1 := HH_1 (h := h) (a := a) (o := o2) (cs := cls L) (told := ts.map fun t => (cls L).getD t []) (due := due) (p := p)
        have s1 := HH_s1 (h := h) (a := a) (o := o2) (cs := cls L) (told := ts.map fun t => (cls L).getD t []) (told' := (ts ++ [p.getD i 0]).map fun t => (cls L).getD t []) (due := due) (p := p)
        have g3 := HH_0 (h := h) (a := a) (o := o2) (cs := cls L) (told := (ts ++ [p.getD i 0]).map fun t => (cls L).getD t []) (due := due) (p := p)
        have xt : ∀ h, ixD ((cls L).map dC) (p.getD i 0 : Nat) h = .ok (.tup (((cls L).getD (p.getD i 0) []).map dN)) h := fun h => ixD_map hc
        have tl : ts.length ≤ i := by have := T.sub.length_le; rw [List.length_take] at this; omega
        have ap : ∀ h', appO (some (.lst ((ts.map fun t => (cls L).getD t []).map dC))) (h.length + 1) (.tup (((cls L).getD (p.getD i 0) []).map dN)) h' = .ok .non (h'.set (h.length + 1) (.lst (((ts ++ [p.getD i 0]).map fun t => (cls L).getD t []).map dC))) := fun h' => by
          rw [appO_lst (by rw [List.length_map, List.length_map, sizeLine_eq]; omega), List.map_append, List.map_append]; rfl
        refine ⟨[some (.ref a), some (.tup (L.map dN)), some (dN L.length), some (.ref h.length), some (.ref (h.length + 1)), some (.ref (h.length + 2)), some (dN (p.getD i 0)), y7], _, ?_, _, _, o2, ts ++ [p.getD i 0], _, rfl, rfl, T2, B1.mono (by omega)⟩
        clear T2 T hc c0 c1 c2 mc hd
        generalize HH h a o2 (cls L) ((ts ++ [p.getD i 0]).map fun t => (cls L).getD t []) (lay1 due ((cls L).getD (p.getD i 0) []) (((cls L).getD (p.getD i 0) []).getD 0 0)) p = H4 at *
        generalize HH h a o2 (cls L) ((ts ++ [p.getD i 0]).map fun t => (cls L).getD t []) due p = H3 at *
        generalize ((ts ++ [p.getD i 0]).map fun t => (cls L).getD t []).map dC = T3 at *
        generalize HH h a o2 (cls L) (ts.map fun t => (cls L).getD t []) due p = H2 at *
        generalize (ts.map fun t => (cls L).getD t []).map dC = T2 at *
        generalize HH h a o' (cls L) (ts.map fun t => (cls L).getD t []) due p = H1 at *
        generalize ((cls L).getD (p.getD i 0) []).map dN = cd at *
        generalize (cls L).map dC = csd at *
        generalize L.map dN = Ld at *
        generalize p.getD i 0 = t at *
        simp only [dN] at w2
        simp [lb__law_classes_hold_1, dN, e1, q, q', g0, g1, xt, ap, s1, g3, w2])
  rw [List.length_map] at T B
  have pl := P.len
  have cl := (cs_cls C).le
  exact ⟨x6, x7, o', ts, due, w, T, B.mono (by omega)⟩
end Law

set_option maxHeartbeats 1000000
namespace Law
open PySem Rf L2
theorem row_R {l : List Nat} (hl : l.length ≤ 1000) {r : Nat} {h : AH} (hr : h[r]? = some (.lst (l.map dN))) : c__law_is_row [.tup (l.map dN), .ref r] h = .ok (.bl true) h :=
  row_spec hl (by rw [cLen_ref_, hr, lenO_lst, List.length_map]) (fun i hi => by rw [oIx_ref_, hr, ixO_lst, ixD_N hi])
theorem labels_good {n : Nat} (hn : n ≤ 1000) {cs : List (List Nat)} (g : GoodC n cs) (hr : ∀ c ∈ cs, c.length ≤ 1000) {lab : List Nat} (lo : LabOK n cs lab) {h : AH} : c_labels_of [.tup (cs.map dC), dN n] h = .ok (.tup (lab.map dN)) h := by
  rcases labels_of_spec hn (rows := cs.map dC) (fun d hd => by
    obtain ⟨c, hc, rfl⟩ := List.mem_map.mp hd
    exact vd_C (hr c hc)) (h := h) with ⟨cs', lab', e, g', lo', w⟩ | ⟨no, _⟩
  · have := dCs_inj e
    subst this
    rw [w, lab_eq lo lo']
  · exact absurd ⟨cs, rfl, g⟩ no
theorem classes_hold_spec {L : List Nat} (C : Canon L) (h1 : 1 ≤ L.length) (hn : L.length ≤ 30) {h : AH} {a N : Nat} {o : AO} (ha : h[a]? = some o) (hb : Bag N o) (hN : N + 1000 ≤ 1000000000) :
    ∃ o', c__law_classes_hold [.ref a, .tup (L.map dN)] h = .ok (.bl true) (h.set a o') := by
  have hal := (List.getElem?_eq_some_iff.mp ha).1
  have S := cs_cls C
  obtain ⟨t0, _, ht0, _⟩ := S.cov 0 (by omega)
  have clen := S.le
  have crow : ∀ c ∈ cls L, c.length ≤ 1000 := fun c hc => by
    obtain ⟨t, ht, rfl⟩ := mem_getD (d := []) hc
    have := (S.pos t ht).2
    omega
  have eH1 : h ++ [AO.lst ((cls L).map dC)] = HS h a o [.lst ((cls L).map dC)] := by unfold HS; rw [set_self ha]
  have cl := classes_spec (L := L) (by omega) (h := h)
  rw [eH1] at cl
  have co := fun h => classes_of_spec C (by omega) (h := h)
  have rt := rows_T (cs := cls L) (by omega) crow (r := h.length) (h := HS h a o [.lst ((cls L).map dC)]) (by rw [HS_0]; rfl)
  obtain ⟨p, o1, e1, P, B1⟩ := shuffled_spec (h := HS h a o [.lst ((cls L).map dC), .lst [], .lst ((List.range L.length).map dN)]) (a := a) (n := (cls L).length) (HS_a hal) hb (by omega) (by omega) (by omega)
  have eH3 : (HS h a o [.lst ((cls L).map dC), .lst [], .lst ((List.range L.length).map dN)]).set a o1 ++ [.lst (p.map dN)] = HH h a o1 (cls L) [] (List.range L.length) p := by
    rw [HS_set_a hal, HS_app]; rfl
  rw [eH3, HS_len] at e1
  replace e1 : c__law_shuffled [.ref a, dN (cls L).length] (HS h a o [.lst ((cls L).map dC), .lst [], .lst ((List.range L.length).map dN)]) = .ok (.ref (h.length + 3)) (HH h a o1 (cls L) [] (List.range L.length) p) := e1
  have g3 := HH_3 (h := h) (a := a) (o := o1) (cs := cls L) (told := []) (due := List.range L.length) (p := p)
  obtain ⟨x6, x7, o2, ts, due, w, T, B2⟩ := told_walk C hn hal B1 (by omega) P
  have td := T.told C hn P
  obtain ⟨told, htold⟩ : ∃ told, told = ts.map fun t => (cls L).getD t [] := ⟨_, rfl⟩
  have tl := T.lab
  rw [← htold] at w td tl
  have f1 := HH_1 (h := h) (a := a) (o := o2) (cs := cls L) (told := told) (due := due) (p := p)
  have lo := fun h => labels_good (by omega) td.good (fun c hc => by have := td.row c hc; omega) tl (h := h)
  have ir := row_R (l := due) (by rw [tl.1]; omega) (HH_2 (h := h) (a := a) (o := o2) (cs := cls L) (told := told) (due := due) (p := p))
  obtain ⟨v, o3, e3, B3, rf⟩ := no_classes_spec hn td (HH_a (h := h) (a := a) (o := o2) (cs := cls L) (told := told) (due := due) (p := p) hal) B2 (by omega)
  rw [HH_sa hal] at e3
  have rs := fun h => refused_spec (by omega) rf (h := h)
  have rg := rev_good C
  obtain ⟨lab, hlab⟩ : ∃ lab, LabOK L.length (cls L).reverse lab := by
    rcases labels_of_spec (n := L.length) (by omega) (rows := (cls L).reverse.map dC) (fun d hd => by
      obtain ⟨c, hc, rfl⟩ := List.mem_map.mp hd
      exact vd_C (crow c (List.mem_reverse.mp hc))) (h := h) with ⟨cs', lab', e, g', lo', w⟩ | ⟨no, _⟩
    · have := dCs_inj e
      subst this
      exact ⟨lab', lo'⟩
    · exact absurd ⟨_, rfl, rg⟩ no
  have eL := lab_all C hlab
  rw [eL] at hlab
  have lr := fun h => labels_good (by omega) rg (fun c hc => crow c (List.mem_reverse.mp hc)) hlab (h := h)
  have f0 := HH_0 (h := h) (a := a) (o := o3) (cs := cls L) (told := told) (due := due) (p := p)
  have r2 := fun h => row_T (L := L) (by omega) (h := h)
  rw [List.map_reverse] at lr
  refine ⟨o3, ?_⟩
  have lLd : (L.map dN).length = L.length := by simp
  have lcd : ((cls L).map dC).length = (cls L).length := by simp
  have rg1 : RgOk 0 (L.length : Int) := rgOk_nat (by omega)
  have e : c__law_classes_hold [.ref a, .tup (L.map dN)] h = gc h (.ok (.bl true) (HH h a o3 (cls L) told due p)) := by
    unfold c__law_classes_hold fsem
    have hst : (HS h a o [.lst ((cls L).map dC)])[h.length]? = some (.lst ((cls L).map dC)) := by rw [HS_0]; rfl
    have s2 : ∀ X : AO, HS h a o [.lst ((cls L).map dC)] ++ [.lst []] ++ [X] = HS h a o [.lst ((cls L).map dC), .lst [], X] := fun X => by rw [HS_app, HS_app]; rfl
    have c2 : (HS h a o [.lst ((cls L).map dC), .lst [], .lst ((List.range L.length).map dN)])[h.length]? = some (.lst ((cls L).map dC)) := by rw [HS_0]; rfl
    have n1 : (HS h a o [.lst ((cls L).map dC)]).length = h.length + 1 := by rw [HS_len]; rfl
    have n2 : (HS h a o [.lst ((cls L).map dC)] ++ [AO.lst []]).length = h.length + 2 := by rw [HS_app, HS_len]; rfl
    obtain ⟨H1, hH1⟩ : ∃ H1, H1 = HS h a o [.lst ((cls L).map dC)] := ⟨_, rfl⟩
    rw [← hH1] at cl rt hst n1 n2
    obtain ⟨H2, hH2⟩ : ∃ H2, H2 = H1 ++ [AO.lst []] := ⟨_, rfl⟩
    obtain ⟨H3, hH3⟩ : ∃ H3, H3 = H2 ++ [AO.lst ((List.range L.length).map dN)] := ⟨_, rfl⟩
    have e33 : HS h a o [.lst ((cls L).map dC), .lst [], .lst ((List.range L.length).map dN)] = H3 := by rw [hH3, hH2, hH1, s2]
    rw [e33] at e1 c2
    rw [← hH2] at n2
    clear e33 s2 eH1 eH3 htold hH1
    have rgz := rg_zero L.length
    generalize HH h a o3 (cls L) told due p = H6 at *
    generalize HH h a o2 (cls L) told due p = H5 at *
    generalize HH h a o1 (cls L) [] (List.range L.length) p = H4 at *
    generalize told.map dC = toldd at *
    generalize due.map dN = dued at *
    generalize (List.range L.length).map dN = rd at *
    generalize (cls L).map dC = cd at *
    generalize L.map dN = Ld at *
    generalize p.map dN = pd at *
    simp only [dN] at e1 w lo e3 rs lr
    simp [m__law_classes_hold, dN, lLd, cl, co, rt, n1, ← hH2, n2, rg1, rgz, ← hH3, c2, hst, lcd, e1, g3, w, f1, lo, ir, e3, rs, eTupRev, Rf.listOf, f0, lr, r2]
  rw [e]
  unfold HH
  rw [gc_HS rfl B3.flat]
end Law

set_option maxHeartbeats 1000000
/-! tests_hold: the values -/
namespace Law
open PySem Rf L2
theorem cut_mem {es : List D} {lo hi : Option Int} : (∀ d ∈ cutD es lo hi, d ∈ es) ∧ (cutD es lo hi).length ≤ es.length := by
  unfold cutD
  refine ⟨fun d hd => List.mem_of_mem_drop (List.mem_of_mem_take hd), ?_⟩
  simp only [List.length_take, List.length_drop]
  omega
def RowV (m : Nat) (ds : List D) : Prop := ds.length ≤ m ∧ ∀ d ∈ ds, V0 d
theorem RowV.vd {m : Nat} {ds : List D} (r : RowV m ds) (hm : m ≤ 1000) : Vd (.tup ds) := .inr ⟨ds, rfl, by have := r.1; omega, r.2⟩
theorem RowV.cut {m : Nat} {ds : List D} (r : RowV m ds) {lo hi : Option Int} : RowV m (cutD ds lo hi) := ⟨by have := (cut_mem (es := ds) (lo := lo) (hi := hi)).2; have := r.1; omega, fun d hd => r.2 d (cut_mem.1 d hd)⟩
theorem RowV.app {m k : Nat} {ds es : List D} (r : RowV m ds) (q : RowV k es) : RowV (m + k) (ds ++ es) := ⟨by rw [List.length_append]; have := r.1; have := q.1; omega, fun d hd => by
  rcases List.mem_append.mp hd with h | h
  · exact r.2 d h
  · exact q.2 d h⟩
theorem RowV.one {d : D} (h : V0 d) : RowV 1 [d] := ⟨by simp, fun x hx => by rw [List.mem_singleton] at hx; subst hx; exact h⟩
theorem rowV_N {L : List Nat} {m : Nat} (h : L.length ≤ m) : RowV m (L.map dN) := ⟨by simpa using h, fun d hd => by
  obtain ⟨x, _, rfl⟩ := List.mem_map.mp hd
  exact v0_N⟩
theorem v0_I {i : Int} : V0 (.int i) := .inl trivial
/-- one value, one size -/
theorem test_1 {d : D} (hd : Vd d) {s : Nat} (hs : s ≤ 1000) {x0 x1 x2 x3 x4 x5 x6 x7 x8 x9 x10 x12 : Option D} {h : AH} :
    (onlyNx (gVar 12 (dN s) [x0, x1, x2, x3, x4, x5, x6, x7, x8, x9, x10, some d, x12] h)).then lb__law_tests_hold_4 = .nx [x0, x1, x2, x3, x4, x5, x6, x7, x8, x9, x10, some d, some (dN s)] h := by
  obtain ⟨b1, e1, i1⟩ := is_labels_spec hd hs (h := h)
  obtain ⟨b2, e2, i2⟩ := lis_labels_spec hd hs (h := h)
  have eb : b1 = b2 := by rw [Bool.eq_iff_iff, i1, i2]
  subst eb
  have ts := truth_spec b1 b1 h
  rw [beq_self_eq_true] at ts
  simp [lb__law_tests_hold_4, e1, e2, ts]
/-- one value, three sizes -/
theorem test_3 {n : Nat} (h1 : 1 ≤ n) (hn : n ≤ 30) {d : D} (hd : Vd d) {x0 x1 x3 x4 x5 x6 x7 x8 x9 x10 x11 x12 : Option D} {h : AH} :
    ∃ y12 o, (onlyNx (gVar 11 d [x0, x1, some (dN n), x3, x4, x5, x6, x7, x8, x9, x10, x11, x12] h)).then lb__law_tests_hold_3 = .nx [x0, x1, some (dN n), x3, x4, x5, x6, x7, x8, x9, x10, some d, y12] (h ++ [o]) := by
  obtain ⟨m, hm, mx⟩ : ∃ m : Nat, m ≤ 1000 ∧ ∀ h, cMax2 [.int 1, .int ((n : Int) - 1)] h = .ok (dN m) h := by
    refine ⟨if n - 1 > 1 then n - 1 else 1, by split <;> omega, fun h => ?_⟩
    rw [cMax2_int]
    by_cases c : n - 1 > 1
    · rw [if_pos c, if_pos (by omega)]; unfold dN; congr 2; omega
    · rw [if_neg c, if_neg (by omega)]; rfl
  obtain ⟨ds, hds⟩ : ∃ ds, ds = [dN n, dN (n + 1), dN m] := ⟨_, rfl⟩
  obtain ⟨e', h', w, y12, rfl, rfl⟩ := liveL_inv (g := gVar 12) (b := lb__law_tests_hold_4) (r := h.length) (ds := ds)
    (fun i e h' => ∃ y12, e = [x0, x1, some (dN n), x3, x4, x5, x6, x7, x8, x9, x10, some d, y12] ∧ h' = h ++ [.lst ds]) (by rintro i e h' ⟨y, rfl, rfl⟩; simp)
    (e := [x0, x1, some (dN n), x3, x4, x5, x6, x7, x8, x9, x10, some d, x12]) (h := h ++ [.lst ds]) ⟨x12, rfl, rfl⟩ (by
      rintro i s e h' hs ⟨y12, rfl, rfl⟩
      have mem := List.mem_of_getElem? hs
      rw [hds] at mem
      simp only [List.mem_cons, List.not_mem_nil, or_false] at mem
      rcases mem with rfl | rfl | rfl
      · exact ⟨_, _, test_1 hd (by omega), _, rfl, rfl⟩
      · exact ⟨_, _, test_1 hd (by omega), _, rfl, rfl⟩
      · exact ⟨_, _, test_1 hd (by omega), _, rfl, rfl⟩)
  refine ⟨y12, .lst ds, ?_⟩
  have f3 : Fits 3 := fits (by decide)
  have st : h ++ [AO.lst [.int (n : Int), .int ((n : Int) + 1), .int (m : Int)]] = h ++ [.lst ds] := by rw [hds]; simp [dN]
  have hg : (h ++ [AO.lst ds])[h.length]? = some (.lst ds) := by simp
  generalize h ++ [AO.lst ds] = H2 at *
  simp only [dN] at w mx
  simp [lb__law_tests_hold_3, dN, f3, mx, st, hg, w]
  done
/-- the greatest point of each class -/
theorem great_1 {L : List Nat} {n k : Nat} (lL : L.length = n) (hn : n ≤ 30) (hk : k < n) {x0 x6 x7 x8 x9 x10 x11 x12 : Option D} {G : AH} {ds : List D} (ld : ds.length = n) {h : AH} {x5 : Option D} :
    ∃ (m : Int) (o : AO), lb__law_tests_hold_1 [x0, some (.tup (L.map dN)), some (dN n), some (.ref (h.length + 1)), some (dN k), x5, x6, x7, x8, x9, x10, x11, x12] (HN h (.lst [.int 0] :: .lst ds :: G)) =
      .nx [x0, some (.tup (L.map dN)), some (dN n), some (.ref (h.length + 1)), some (dN k), x5, x6, x7, x8, x9, x10, x11, x12] (HN h (.lst [.int 0] :: .lst (ds.set k (.int m)) :: (G ++ [o]))) := by
  obtain ⟨l, hl⟩ : ∃ l, l = (List.range n).filter fun j => L.getD j 0 == L.getD k 0 := ⟨_, rfl⟩
  have mem : k ∈ l := by rw [hl, List.mem_filter, List.mem_range]; exact ⟨hk, by simp⟩
  have pos : 0 < (l.map fun x : Nat => (x : Int)).length := by rw [List.length_map]; exact List.length_pos_of_mem mem
  have lc : ∀ H : AH, lc__law_tests_hold_1 [x0, some (.tup (L.map dN)), some (dN n), some (.ref (h.length + 1)), some (dN k), x5, x6, x7, x8, x9, x10, x11, x12] H = .ok (.ref H.length) (H ++ [.lst (l.map dN)]) := fun H => by
    unfold lc__law_tests_hold_1
    rw [eLc_pure (φ := dN) (List.range n) (fun j => L.getD j 0 == L.getD k 0) dN (h1 := H) (iRange1_nat (by simp [dN]) (by omega)) (by rw [sizeLine_eq]; simp; omega) (fun j hj => ?_) (fun j hj _ => by simp [wipeE, dN])]
    · rw [hl]
    · rw [List.mem_range] at hj
      have a1 : ∀ h, ixD (L.map dN) (k : Int) h = .ok (dN (L.getD k 0)) h := fun h => ixD_N (by omega)
      have a2 : ∀ h, ixD (L.map dN) (j : Int) h = .ok (dN (L.getD j 0)) h := fun h => ixD_N (by omega)
      simp only [dN] at a1 a2
      generalize L.getD k 0 = u at *
      generalize L.getD j 0 = v at *
      generalize L.map dN = Ld at *
      simp [wipeE, dN, a1, a2]
  refine ⟨maxI (l.map fun x : Nat => (x : Int)), .lst (l.map dN), ?_⟩
  have lc := lc (HN h (.lst [.int 0] :: .lst ds :: G))
  rw [HN_app] at lc
  have el : l.map dN = (l.map fun x : Nat => (x : Int)).map D.int := by rw [List.map_map]; rfl
  have gm : (HN h (.lst [.int 0] :: .lst ds :: G) ++ [.lst (l.map dN)])[(HN h (.lst [.int 0] :: .lst ds :: G)).length]? = some (.lst ((l.map fun x : Nat => (x : Int)).map D.int)) := by rw [el]; simp
  have cm := cMaxL_ref gm pos
  rw [HN_app] at cm
  have g1 : (HN h (.lst [.int 0] :: .lst ds :: G ++ [.lst (l.map dN)]))[h.length + 1]? = some (.lst ds) := by rw [HN_k]; rfl
  have pu : ∀ v h', putO (some (.lst ds)) (h.length + 1) (k : Int) v h' = some (h'.set (h.length + 1) (.lst (ds.set k v))) := fun v h' => putO_nat (by omega)
  have s1 : ∀ v, (HN h (.lst [.int 0] :: .lst ds :: G ++ [.lst (l.map dN)])).set (h.length + 1) (.lst (ds.set k v)) = HN h (.lst [.int 0] :: .lst (ds.set k v) :: (G ++ [.lst (l.map dN)])) := fun v => by rw [HN_set_k]; rfl
  have s1 := s1 (.int (maxI (l.map fun x : Nat => (x : Int))))
  generalize HN h (.lst [.int 0] :: .lst (ds.set k (.int (maxI (l.map fun x : Nat => (x : Int))))) :: (G ++ [.lst (l.map dN)])) = H3 at *
  generalize HN h (.lst [.int 0] :: .lst ds :: G ++ [.lst (l.map dN)]) = H2 at *
  generalize maxI (l.map fun x : Nat => (x : Int)) = m at *
  generalize HN h (.lst [.int 0] :: .lst ds :: G) = H1 at *
  generalize L.map dN = Ld at *
  simp [lb__law_tests_hold_1, lc, cm, g1, pu, s1]
end Law

set_option maxHeartbeats 1000000
/-! tests_hold: its walk -/
namespace Law
open PySem Rf L2
theorem turn_1 {L : List Nat} {n : Nat} (lL : L.length = n) (h1 : 1 ≤ n) (hn : n ≤ 30) {h : AH} {a N : Nat} {o : AO} (hal : a < h.length) (hb : Bag N o) (hN : N + 10 ≤ 1000000000) {Ls : AH} {r : Nat} {vals : List D} (hr : Ls[r]? = some (.lst vals)) (lv : vals.length ≤ 100)
    {x3 x4 x5 x7 x8 x9 x10 x11 x12 : Option D} : ∃ y8 y9 y10 o' v Ls', lb__law_tests_hold_2 [some (.ref a), some (.tup (L.map dN)), some (dN n), x3, x4, x5, some (.ref (h.length + r)), x7, x8, x9, x10, x11, x12] (HS h a o Ls) =
      .nx [some (.ref a), some (.tup (L.map dN)), some (dN n), x3, x4, x5, some (.ref (h.length + r)), x7, y8, y9, y10, x11, x12] (HS h a o' Ls') ∧ Ls'[r]? = some (.lst (vals ++ [v])) ∧ Vd v ∧ Bag (N + 3) o' := by
  obtain ⟨t, o1, e1, ht, B1⟩ := take_spec (s := (n : Int)) (HS_a (h := h) (o := o) (L := Ls) hal) hb (by omega) (by omega) (by omega)
  rw [HS_set_a hal] at e1
  obtain ⟨j, o2, e2, hj, B2⟩ := take_spec (s := (n : Int)) (HS_a (h := h) (o := o1) (L := Ls) hal) B1 (by omega) (by omega) (by omega)
  rw [HS_set_a hal] at e2
  have xj : ∀ h, ixD (L.map dN) (j : Int) h = .ok (dN (L.getD j 0)) h := fun h => ixD_N (by omega)
  obtain ⟨ds, hds⟩ : ∃ ds, ds = [D.int (-1), dN n, dN t, .int ((t : Int) + 1), .int 0, dN (L.getD j 0), .non, .bl true, .bl false, s0, .tup [.int 0], .int (-(n : Int))] := ⟨_, rfl⟩
  have vds : ∀ d ∈ ds, V0 d := fun d hd => by
    rw [hds] at hd
    simp only [List.mem_cons, List.not_mem_nil, or_false] at hd
    rcases hd with rfl | rfl | rfl | rfl | rfl | rfl | rfl | rfl | rfl | rfl | rfl | rfl <;> first | exact v0_I | exact v0_N | exact .inl trivial | exact .inr ⟨_, rfl, rfl⟩
  obtain ⟨q, o3, e3, hq, B3⟩ := take_spec (s := 12) (HS_a (h := h) (o := o2) (L := Ls ++ [.lst ds]) hal) B2 (by omega) (by omega) (by omega)
  rw [HS_set_a hal] at e3
  obtain ⟨v, hv, ev⟩ := ixD_in (ds := ds) (k := q) (by rw [hds]; simp; omega)
  have lds : Fits ds.length := fits (by rw [hds]; simp)
  have rl := (List.getElem?_eq_some_iff.mp hr).1
  have gr : (Ls ++ [AO.lst ds])[r]? = some (.lst vals) := by rw [List.getElem?_append_left rl, hr]
  have g4 : (HS h a o3 (Ls ++ [.lst ds]))[h.length + r]? = some (.lst vals) := by rw [HS_k, gr]
  have g2 : (HS h a o2 Ls)[h.length + r]? = some (.lst vals) := by rw [HS_k, hr]
  have ty : (HS h a o2 (Ls ++ [.lst ds]))[h.length + r]? = some (.lst vals) := by rw [HS_k, gr]
  have gm : (HS h a o3 (Ls ++ [.lst ds]))[h.length + Ls.length]? = some (.lst ds) := by rw [HS_k]; simp
  have n2 : (HS h a o2 Ls).length = h.length + Ls.length := HS_len
  have a2 : HS h a o2 Ls ++ [AO.lst ds] = HS h a o2 (Ls ++ [.lst ds]) := HS_app
  have RA : RowV 30 (cutD (L.map dN) none (some (t : Int))) := (rowV_N (by omega)).cut
  have RB : RowV 30 (cutD (L.map dN) (some ((t : Int) + 1)) none) := (rowV_N (by omega)).cut
  obtain ⟨A, hA⟩ : ∃ A, A = cutD (L.map dN) none (some (t : Int)) := ⟨_, rfl⟩
  obtain ⟨B, hB⟩ : ∃ B, B = cutD (L.map dN) (some ((t : Int) + 1)) none := ⟨_, rfl⟩
  rw [← hA] at RA
  rw [← hB] at RB
  have f1 : Fits (A.length + 1) := fits (by have := RA.1; omega)
  have f2 : Fits (A.length + 1 + B.length) := fits (by have := RA.1; have := RB.1; omega)
  have f3 : Fits (A.length + (1 + B.length)) := fits (by have := RA.1; have := RB.1; omega)
  have RV := RA.app ((RowV.one (vds v hv)).app RB)
  have ap : ∀ h', appO (some (.lst vals)) (h.length + r) (.tup (A ++ v :: B)) h' = .ok .non (h'.set (h.length + r) (.lst (vals ++ [.tup (A ++ v :: B)]))) := fun h' => appO_lst (by rw [sizeLine_eq]; omega)
  have s4 : (HS h a o3 (Ls ++ [.lst ds])).set (h.length + r) (AO.lst (vals ++ [D.tup (A ++ v :: B)])) = HS h a o3 ((Ls ++ [AO.lst ds]).set r (AO.lst (vals ++ [D.tup (A ++ v :: B)]))) := HS_set_k
  refine ⟨some (dN t), some (dN (L.getD j 0)), some (.ref (h.length + Ls.length)), o3, D.tup (A ++ v :: B), (Ls ++ [AO.lst ds]).set r (AO.lst (vals ++ [D.tup (A ++ v :: B)])), ?_, List.getElem?_set_self (by rw [List.length_append]; omega), RV.vd (by omega), B3.mono (by omega)⟩
  clear RA RB RV vds hv gr
  generalize HS h a o3 ((Ls ++ [AO.lst ds]).set r (AO.lst (vals ++ [D.tup (A ++ v :: B)]))) = H5 at *
  generalize HS h a o3 (Ls ++ [.lst ds]) = H4 at *
  generalize HS h a o2 (Ls ++ [.lst ds]) = H3 at *
  generalize HS h a o2 Ls = H2 at *
  generalize HS h a o1 Ls = H1 at *
  generalize HS h a o Ls = H0 at *
  generalize L.getD j 0 = y at *
  generalize L.map dN = Ld at *
  generalize h.length + Ls.length = R at *
  generalize h.length + r = R2 at *
  simp only [dN] at hds xj
  simp [lb__law_tests_hold_2, dN, e1, e2, xj, n2, ← hds, lds, a2, ty, e3, gm, ev, ← hA, ← hB, f1, f2, f3, g4, ap, s4]
theorem great_all {L : List Nat} {n : Nat} (lL : L.length = n) (hn : n ≤ 30) {x0 x5 x6 x7 x8 x9 x10 x11 x12 : Option D} {h : AH} :
    ∃ y4 ds G, sLoop (gVar 4) lb__law_tests_hold_1 ((List.range n).map dN) [x0, some (.tup (L.map dN)), some (dN n), some (.ref (h.length + 1)), none, x5, x6, x7, x8, x9, x10, x11, x12] (HN h [.lst [.int 0], .lst ((List.replicate n 0).map dN)]) =
      .nx [x0, some (.tup (L.map dN)), some (dN n), some (.ref (h.length + 1)), y4, x5, x6, x7, x8, x9, x10, x11, x12] (HN h (.lst [.int 0] :: .lst ds :: G)) ∧ RowV n ds := by
  obtain ⟨e', h', w, y4, ds, G, rfl, rfl, ld, R⟩ := loopN (k := 4) (b := lb__law_tests_hold_1)
    (fun i e h' => ∃ y4 ds G, e = [x0, some (.tup (L.map dN)), some (dN n), some (.ref (h.length + 1)), y4, x5, x6, x7, x8, x9, x10, x11, x12] ∧ h' = HN h (.lst [.int 0] :: .lst ds :: G) ∧ ds.length = n ∧ ∀ d ∈ ds, V0 d)
    n (e := [x0, some (.tup (L.map dN)), some (dN n), some (.ref (h.length + 1)), none, x5, x6, x7, x8, x9, x10, x11, x12]) (h := HN h [.lst [.int 0], .lst ((List.replicate n 0).map dN)])
    ⟨none, (List.replicate n 0).map dN, [], rfl, rfl, by simp, (rowV_N (Nat.le_refl _)).2⟩ (by
      rintro i e h' hi ⟨y4, ds, G, rfl, rfl, ld, R⟩
      obtain ⟨m, o, w⟩ := great_1 lL hn hi ld (x0 := x0) (x5 := x5) (x6 := x6) (x7 := x7) (x8 := x8) (x9 := x9) (x10 := x10) (x11 := x11) (x12 := x12) (G := G) (h := h)
      refine ⟨_, _, w, some (dN i), ds.set i (.int m), G ++ [o], rfl, rfl, by simp [ld], fun d hd => ?_⟩
      rcases List.mem_or_eq_of_mem_set hd with q | q
      · exact R d q
      · rw [q]; exact v0_I)
  exact ⟨y4, ds, G, w, by omega, R⟩
theorem turns_all {L : List Nat} {n : Nat} (lL : L.length = n) (h1 : 1 ≤ n) (hn : n ≤ 30) {h : AH} {a N : Nat} {o : AO} (hal : a < h.length) (hb : Bag N o) (hN : N + 100 ≤ 1000000000) {Ls : AH} {r : Nat} {vals : List D} (hr : Ls[r]? = some (.lst vals)) (lv : vals.length ≤ 50) (hv : ∀ v ∈ vals, Vd v)
    {x3 x4 x5 x11 x12 : Option D} : ∃ y7 y8 y9 y10 o' vals' Ls', sLoop (gVar 7) lb__law_tests_hold_2 ((List.range 4).map dN) [some (.ref a), some (.tup (L.map dN)), some (dN n), x3, x4, x5, some (.ref (h.length + r)), none, none, none, none, x11, x12] (HS h a o Ls) =
      .nx [some (.ref a), some (.tup (L.map dN)), some (dN n), x3, x4, x5, some (.ref (h.length + r)), y7, y8, y9, y10, x11, x12] (HS h a o' Ls') ∧ Ls'[r]? = some (.lst vals') ∧ (∀ v ∈ vals', Vd v) ∧ Bag (N + 12) o' := by
  obtain ⟨e', h', w, y7, y8, y9, y10, o', vals', Ls', rfl, rfl, g, lv', hv', B⟩ := loopN (k := 7) (b := lb__law_tests_hold_2)
    (fun i e h' => ∃ y7 y8 y9 y10 o' vals' Ls', e = [some (.ref a), some (.tup (L.map dN)), some (dN n), x3, x4, x5, some (.ref (h.length + r)), y7, y8, y9, y10, x11, x12] ∧ h' = HS h a o' Ls' ∧ Ls'[r]? = some (.lst vals') ∧ vals'.length ≤ 50 + i ∧ (∀ v ∈ vals', Vd v) ∧ Bag (N + 3 * i) o')
    4 (e := [some (.ref a), some (.tup (L.map dN)), some (dN n), x3, x4, x5, some (.ref (h.length + r)), none, none, none, none, x11, x12]) (h := HS h a o Ls)
    ⟨none, none, none, none, o, vals, Ls, rfl, rfl, hr, lv, hv, hb⟩ (by
      rintro i e h' hi ⟨y7, y8, y9, y10, o', vals', Ls', rfl, rfl, g, lv', hv', B⟩
      obtain ⟨z8, z9, z10, o2, v, L2, w, g2, vv, B2⟩ := turn_1 lL h1 hn hal B (by omega) g (by omega) (x3 := x3) (x4 := x4) (x5 := x5) (x7 := some (dN i)) (x8 := y8) (x9 := y9) (x10 := y10) (x11 := x11) (x12 := x12)
      refine ⟨_, _, w, some (dN i), z8, z9, z10, o2, vals' ++ [v], L2, rfl, rfl, g2, by simp; omega, fun d hd => ?_, B2.mono (by omega)⟩
      rcases List.mem_append.mp hd with q | q
      · exact hv' d q
      · rw [List.mem_singleton] at q; subst q; exact vv)
  exact ⟨y7, y8, y9, y10, o', vals', Ls', w, g, hv', B⟩
theorem tests_all {n : Nat} (h1 : 1 ≤ n) (hn : n ≤ 30) {H : AH} {R : Nat} {vals : List D} (hr : H[R]? = some (.lst vals)) (hv : ∀ v ∈ vals, Vd v) {x0 x1 x3 x4 x5 x6 x7 x8 x9 x10 : Option D} :
    ∃ y11 y12 G, liveL R vals (gVar 11) lb__law_tests_hold_3 [x0, x1, some (dN n), x3, x4, x5, x6, x7, x8, x9, x10, none, none] H = .nx [x0, x1, some (dN n), x3, x4, x5, x6, x7, x8, x9, x10, y11, y12] (H ++ G) := by
  obtain ⟨e', h', w, y11, y12, G, rfl, rfl⟩ := liveL_inv (g := gVar 11) (b := lb__law_tests_hold_3) (r := R) (ds := vals)
    (fun i e h' => ∃ y11 y12 G, e = [x0, x1, some (dN n), x3, x4, x5, x6, x7, x8, x9, x10, y11, y12] ∧ h' = H ++ G) (by rintro i e h' ⟨_, _, G, rfl, rfl⟩; exact app_get_l hr)
    (e := [x0, x1, some (dN n), x3, x4, x5, x6, x7, x8, x9, x10, none, none]) (h := H) ⟨none, none, [], rfl, by simp⟩ (by
      rintro i d e h' hd ⟨y11, y12, G, rfl, rfl⟩
      obtain ⟨z12, o, w⟩ := test_3 h1 hn (hv d (List.mem_of_getElem? hd)) (x0 := x0) (x1 := x1) (x3 := x3) (x4 := x4) (x5 := x5) (x6 := x6) (x7 := x7) (x8 := x8) (x9 := x9) (x10 := x10) (x11 := y11) (x12 := y12) (h := H ++ G)
      exact ⟨_, _, w, some d, z12, G ++ [o], rfl, by rw [List.append_assoc]⟩)
  exact ⟨y11, y12, G, w⟩
end Law

set_option maxHeartbeats 1000000
/-! tests_hold -/
namespace Law
open PySem Rf L2
theorem tests_hold_spec {L : List Nat} {n : Nat} (lL : L.length = n) (h1 : 1 ≤ n) (hn : n ≤ 30) {h : AH} {a N : Nat} {o : AO} (ha : h[a]? = some o) (hb : Bag N o) (hN : N + 1000 ≤ 1000000000) :
    ∃ o', c__law_tests_hold [.ref a, .tup (L.map dN)] h = .ok (.bl true) (h.set a o') := by
  have hal := (List.getElem?_eq_some_iff.mp ha).1
  obtain ⟨y4, ds, G, w1, R1⟩ := great_all lL hn (x0 := some (.ref a)) (x5 := none) (x6 := none) (x7 := none) (x8 := none) (x9 := none) (x10 := none) (x11 := none) (x12 := none) (h := h)
  obtain ⟨X, hX⟩ : ∃ X, X = AO.lst [.int 0] :: AO.lst ds :: G := ⟨_, rfl⟩
  have eX : HN h X = HS h a o X := by unfold HN HS; rw [set_self ha]
  have X1 : X[1]? = some (.lst ds) := by rw [hX]; rfl
  rw [← hX, eX] at w1
  have R0 : RowV 30 (L.map dN) := rowV_N (by omega)
  obtain ⟨A1, hA1⟩ : ∃ A, A = cutD (L.map dN) none (some ((n : Int) - 1)) := ⟨_, rfl⟩
  obtain ⟨A2, hA2⟩ : ∃ A, A = cutD (L.map dN) (some 1) none := ⟨_, rfl⟩
  have RA1 : RowV 30 A1 := by rw [hA1]; exact R0.cut
  have RA2 : RowV 30 A2 := by rw [hA2]; exact R0.cut
  obtain ⟨xs, hxs⟩ : ∃ xs : List D, xs = (List.range n).map fun k : Nat => D.int (if (k : Int) - 1 > 0 then (k : Int) - 1 else 0) := ⟨_, rfl⟩
  have Rxs : RowV 30 xs := ⟨by rw [hxs]; simp; omega, fun d hd => by
    rw [hxs] at hd
    obtain ⟨k, _, rfl⟩ := List.mem_map.mp hd
    exact v0_I⟩
  obtain ⟨V8, hV8⟩ : ∃ V, V = [D.tup (L.map dN), .tup (L.map dN ++ [.int 0]), .tup (L.map dN ++ [.int (n : Int)]), .tup A1, .non, sE, .int 0, .int (n : Int)] := ⟨_, rfl⟩
  obtain ⟨V3, hV3⟩ : ∃ V, V = [D.tup ds, .tup xs, .tup (.bl false :: A2)] := ⟨_, rfl⟩
  have q8 : ∀ v ∈ V8, Vd v := fun v hv => by
    rw [hV8] at hv
    simp only [List.mem_cons, List.not_mem_nil, or_false] at hv
    rcases hv with rfl | rfl | rfl | rfl | rfl | rfl | rfl | rfl
    · exact R0.vd (by omega)
    · exact (R0.app (RowV.one v0_I)).vd (by omega)
    · exact (R0.app (RowV.one v0_I)).vd (by omega)
    · exact RA1.vd (by omega)
    · exact .inl trivial
    · exact .inl trivial
    · exact .inl trivial
    · exact .inl trivial
  have q3 : ∀ v ∈ V3, Vd v := fun v hv => by
    rw [hV3] at hv
    simp only [List.mem_cons, List.not_mem_nil, or_false] at hv
    rcases hv with rfl | rfl | rfl
    · exact R1.vd (by omega)
    · exact Rxs.vd (by omega)
    · exact ((RowV.one (d := .bl false) (.inl trivial)).app RA2).vd (by omega)
  have l8 : V8.length = 8 := by rw [hV8]; rfl
  have l3 : V3.length = 3 := by rw [hV3]; rfl
  obtain ⟨r, hr⟩ : ∃ r, r = X.length + 3 := ⟨_, rfl⟩
  have gr : (X ++ [AO.lst V8, .lst xs, .lst V3, .lst (V8 ++ V3)])[r]? = some (.lst (V8 ++ V3)) := by rw [hr, List.getElem?_append_right (by omega)]; simp
  obtain ⟨y7, y8, y9, y10, o2, vals, Ls, w2, g2, hv2, B2⟩ := turns_all lL h1 hn hal hb (by omega) gr (by simp; omega) (fun v hv => by
    rcases List.mem_append.mp hv with q | q
    · exact q8 v q
    · exact q3 v q) (x3 := some (.ref (h.length + 1))) (x4 := y4) (x5 := none) (x11 := none) (x12 := none)
  have g3 : (HS h a o2 Ls)[h.length + r]? = some (.lst vals) := by rw [HS_k, g2]
  obtain ⟨y11, y12, G2, w3⟩ := tests_all h1 hn g3 hv2 (x0 := some (.ref a)) (x1 := some (.tup (L.map dN))) (x3 := some (.ref (h.length + 1))) (x4 := y4) (x5 := none) (x6 := some (.ref (h.length + r))) (x7 := y7) (x8 := y8) (x9 := y9) (x10 := y10)
  refine ⟨o2, ?_⟩
  have lc2 : ∀ (x6 : Option D) (H : AH), lc__law_tests_hold_2 [some (.ref a), some (.tup (L.map dN)), some (dN n), some (.ref (h.length + 1)), y4, none, x6, none, none, none, none, none, none] H = .ok (.ref H.length) (H ++ [.lst xs]) := fun x6 H => by
    unfold lc__law_tests_hold_2
    rw [hxs, eLc_map (φ := dN) (List.range n) (fun k : Nat => D.int (if (k : Int) - 1 > 0 then (k : Int) - 1 else 0)) (h1 := H) (iRange1_nat (by simp [dN]) (by omega)) (by rw [sizeLine_eq]; simp; omega) (fun k hk => by simp [wipeE, dN])]
  have e : c__law_tests_hold [.ref a, .tup (L.map dN)] h = gc h (.ok (.bl true) (HS h a o2 Ls ++ G2)) := by
    unfold c__law_tests_hold fsem
    have r1 : RepOk 1 (n : Int) := repOk_1 (by omega)
    have r2 : RgB (n : Int) := rgB_nat (by omega)
    have r4 : RgB 4 := rgB_nat (n := 4) (by omega)
    have rz4 : rg 0 4 = (List.range 4).map dN := rg_zero 4
    have lLd : (L.map dN).length = n := by simp [lL]
    have mu : oMul (.ref h.length) (.int (n : Int)) (h ++ [AO.lst [.int 0]]) = .ok (.ref (h.length + 1)) (HN h [.lst [.int 0], .lst ((List.replicate n 0).map dN)]) := by
      rw [oMul_ref_]
      have : (h ++ [AO.lst [.int 0]])[h.length]? = some (.lst [.int 0]) := by simp
      rw [this]
      have rz := rep_zero n
      simp only [List.length_cons, List.length_nil, Nat.zero_add, r1, if_true, Int.toNat_natCast, rz]
      simp [HN]
    have f1 : Fits (n + 1) := fits (by omega)
    have f2 : Fits (1 + A2.length) := fits (by have := RA2.1; omega)
    have f2' : Fits (A2.length + 1) := fits (by have := RA2.1; omega)
    have f8 : Fits V8.length := fits (by omega)
    have f3 : Fits V3.length := fits (by omega)
    have f11 : Fits (V8.length + V3.length) := fits (by omega)
    obtain ⟨H1, hH1⟩ : ∃ H1, H1 = HS h a o X := ⟨_, rfl⟩
    obtain ⟨H2, hH2⟩ : ∃ H2, H2 = H1 ++ [AO.lst V8] := ⟨_, rfl⟩
    obtain ⟨H3, hH3⟩ : ∃ H3, H3 = H2 ++ [AO.lst xs] := ⟨_, rfl⟩
    obtain ⟨H4, hH4⟩ : ∃ H4, H4 = H3 ++ [AO.lst V3] := ⟨_, rfl⟩
    have n1 : H1.length = h.length + X.length := by rw [hH1, HS_len]
    have n2 : H2.length = H1.length + 1 := by rw [hH2]; simp
    have n3 : H3.length = H1.length + 2 := by rw [hH3, hH2]; simp
    have n4 : H4.length = h.length + r := by rw [hH4, hH3, hH2, hr]; simp; omega
    have c1 : H2[h.length + 1]? = some (.lst ds) := by rw [hH2]; exact app_get_l (by rw [hH1, HS_k, X1])
    have c2 : H3[H1.length + 1]? = some (.lst xs) := by rw [← n2, hH3]; simp
    have c3 : H4[H1.length]? = some (.lst V8) := by rw [hH4, hH3]; exact app_get_l (app_get_l (by rw [hH2]; simp))
    have c4 : H4[H1.length + 2]? = some (.lst V3) := by rw [← n3, hH4]; simp
    have e5 : H4 ++ [AO.lst (V8 ++ V3)] = HS h a o (X ++ [AO.lst V8, .lst xs, .lst V3, .lst (V8 ++ V3)]) := by
      rw [hH4, hH3, hH2, hH1, HS_app, HS_app, HS_app, HS_app]
      simp
    rw [← hH1] at w1
    rw [← e5] at w2
    have lc3 := fun x6 => lc2 x6 H2
    rw [← hH3, n2] at lc3
    have rgz := rg_zero n
    clear lc2 hH1 eX n1 n2 R0 R1 RA1 RA2 Rxs q8 q3 e5 gr hX hxs
    generalize HS h a o2 Ls = H6 at *
    generalize HN h [.lst [.int 0], .lst ((List.replicate n 0).map dN)] = H0 at *
    generalize (List.range n).map dN = rd at *
    generalize (List.range 4).map dN = rd4 at *
    generalize L.map dN = Ld at *
    generalize H1.length + 1 = P1 at *
    generalize H1.length + 2 = P2 at *
    generalize hp0 : H1.length = P0 at *
    simp only [dN] at w1 w2 w3 lc3
    simp [m__law_tests_hold, dN, lLd, mu, r2, rgz, w1, ← hA1, ← hA2, f1, f2, f2', ← hV8, f8, ← hH2, hp0, c1, lc3, c2, ← hV3, f3, ← hH4, n3, c3, c4, f11, n4, r4, rz4, w2, g3, w3]
  rw [e, HS_app, gc_HS rfl B2.flat]
end Law

set_option maxHeartbeats 1000000
/-! broken -/
namespace Law
open PySem Rf L2
def brk (L p : List Nat) (i j : Nat) : Bool := L.getD i 0 == L.getD j 0 && !(L.getD (p.getD i 0) 0 == L.getD (p.getD j 0) 0)
def br3 (L p : List Nat) (k i t : Nat) : Option (Nat × Nat × Nat) := if brk L p i (i + 1 + t) = true then some (k, i, i + 1 + t) else none
def br2 (L p : List Nat) (k i : Nat) : Option (Nat × Nat × Nat) := (List.range (L.length - (i + 1))).findSome? (br3 L p k i)
def br1 (L : List Nat) (ps : List (List Nat)) (k : Nat) : Option (Nat × Nat × Nat) := (List.range L.length).findSome? (br2 L (ps.getD k []) k)
def brA (L : List Nat) (ps : List (List Nat)) : Option (Nat × Nat × Nat) := (List.range ps.length).findSome? (br1 L ps)
def d3 (y : Nat × Nat × Nat) : D := .tup [dN y.1, dN y.2.1, dN y.2.2]
theorem find3 {L p : List Nat} {n k i : Nat} (lL : L.length = n) (P : IsP n p) (hn : n ≤ 1000) {b : SM} {s : Nat} (hi : i < n) (Pr : AE → AH → Prop) (Q : AH → Prop) (e : AE) (h : AH) (pr : Pr e h)
    (st : ∀ t, i + 1 + t < n → ∀ e h, Pr e h → (brk L p i (i + 1 + t) = false → ∃ e' h', b (e.set s (some (dN (i + 1 + t)))) h = .nx e' h' ∧ Pr e' h') ∧ (brk L p i (i + 1 + t) = true → ∃ h', b (e.set s (some (dN (i + 1 + t)))) h = .rt (d3 (k, i, i + 1 + t)) h' ∧ Q h')) :
    (br2 L p k i = none → ∃ e' h', sLoop (gVar s) b ((List.range (n - (i + 1))).map fun t => dN (i + 1 + t)) e h = .nx e' h' ∧ Pr e' h') ∧ ∀ y, br2 L p k i = some y → ∃ h', sLoop (gVar s) b ((List.range (n - (i + 1))).map fun t => dN (i + 1 + t)) e h = .rt (d3 y) h' ∧ Q h' := by
  unfold br2
  rw [lL]
  refine loop_find (φ := fun t => dN (i + 1 + t)) Pr Q (br3 L p k i) d3 (List.range (n - (i + 1))) e h pr fun t ht e h pr => ?_
  rw [List.mem_range] at ht
  obtain ⟨a, c⟩ := st t (by omega) e h pr
  unfold br3
  cases q : brk L p i (i + 1 + t) with
  | true => exact ⟨fun z => by rw [if_pos rfl] at z; (cases z), fun y z => by rw [if_pos rfl] at z; have z := Option.some.inj z; subst z; exact c q⟩
  | false => exact ⟨fun _ => a q, fun y z => by rw [if_neg (by simp)] at z; (cases z)⟩
theorem lc_broken {L p : List Nat} {n : Nat} (lL : L.length = n) (P : IsP n p) (hn : n ≤ 1000) {x1 x2 x3 x5 x6 x7 x8 : Option D} {h : AH} :
    lc_broken_1 [some (.tup (L.map dN)), x1, x2, x3, some (dC p), x5, x6, x7, x8] h = .ok (.ref h.length) (h ++ [.lst ((p.map fun x => L.getD x 0).map dN)]) := by
  unfold lc_broken_1
  have lp := P.len
  rw [eLc_map (φ := dN) p (fun x => dN (L.getD x 0)) (h1 := h) rfl (by rw [sizeLine_eq]; omega) (fun x hx => ?_), List.map_map]
  · rfl
  · have hx' : x < n := by
      obtain ⟨i, hi, rfl⟩ := mem_getD (d := 0) hx
      exact P.lt i (by omega)
    have x1 : ∀ h, ixD (L.map dN) (x : Int) h = .ok (dN (L.getD x 0)) h := fun h => ixD_N (by omega)
    generalize L.getD x 0 = y at *
    generalize L.map dN = Ld at *
    simp [wipeE, dN, x1]
theorem brk_step {a b c d : Nat} {h : AH} : True := trivial
theorem broken_row {L p : List Nat} {n k : Nat} (lL : L.length = n) (P : IsP n p) (hn : n ≤ 1000) {x1 x5 x6 x7 : Option D} {h : AH} :
    (((List.range n).findSome? (br2 L p k) = none → ∃ y5 y6 y7, lb_broken_1 [some (.tup (L.map dN)), x1, some (dN n), some (dN k), some (dC p), x5, x6, x7, none] h = .nx [some (.tup (L.map dN)), x1, some (dN n), some (dN k), some (dC p), y5, y6, y7, none] (h ++ [.lst ((p.map fun x => L.getD x 0).map dN)])) ∧
    ∀ y, (List.range n).findSome? (br2 L p k) = some y → lb_broken_1 [some (.tup (L.map dN)), x1, some (dN n), some (dN k), some (dC p), x5, x6, x7, none] h = .rt (d3 y) (h ++ [.lst ((p.map fun x => L.getD x 0).map dN)])) := by
  have lp := P.len
  have lc := lc_broken lL P hn (x1 := x1) (x2 := some (dN n)) (x3 := some (dN k)) (x5 := x5) (x6 := x6) (x7 := x7) (x8 := none) (h := h)
  obtain ⟨I, hI⟩ : ∃ I, I = p.map fun x => L.getD x 0 := ⟨_, rfl⟩
  have lI : I.length = n := by rw [hI]; simp [lp]
  have aI : ∀ i, i < n → I.getD i 0 = L.getD (p.getD i 0) 0 := fun i hi => by rw [hI]; exact map_getD (by omega)
  rw [← hI] at lc ⊢
  have hg : (h ++ [AO.lst (I.map dN)])[h.length]? = some (.lst (I.map dN)) := by simp
  obtain ⟨t1, t2⟩ := loop_find (φ := dN) (g := gVar 6) (b := lb_broken_2)
    (fun e h' => ∃ y6 y7, e = [some (.tup (L.map dN)), x1, some (dN n), some (dN k), some (dC p), some (.ref h.length), y6, y7, none] ∧ h' = h ++ [.lst (I.map dN)])
    (fun h' => h' = h ++ [.lst (I.map dN)]) (br2 L p k) d3 (List.range n) [some (.tup (L.map dN)), x1, some (dN n), some (dN k), some (dC p), some (.ref h.length), x6, x7, none] (h ++ [.lst (I.map dN)]) ⟨x6, x7, rfl, rfl⟩ (by
      rintro i hi e h' ⟨y6, y7, rfl, rfl⟩
      rw [List.mem_range] at hi
      have i1 := find3 (k := k) lL P hn (b := lb_broken_3) (s := 7) hi
        (fun e h' => ∃ y7, e = [some (.tup (L.map dN)), x1, some (dN n), some (dN k), some (dC p), some (.ref h.length), some (dN i), y7, none] ∧ h' = h ++ [.lst (I.map dN)])
        (fun h' => h' = h ++ [.lst (I.map dN)]) [some (.tup (L.map dN)), x1, some (dN n), some (dN k), some (dC p), some (.ref h.length), some (dN i), y7, none] (h ++ [.lst (I.map dN)]) ⟨y7, rfl, rfl⟩ (by
          rintro t ht e h' ⟨y7, rfl, rfl⟩
          have a1 : ∀ h, ixD (L.map dN) (i : Int) h = .ok (dN (L.getD i 0)) h := fun h => ixD_N (by omega)
          have a2 : ∀ h, ixD (L.map dN) ((i + 1 + t : Nat) : Int) h = .ok (dN (L.getD (i + 1 + t) 0)) h := fun h => ixD_N (by omega)
          have a3 : ∀ h, ixD (I.map dN) (i : Int) h = .ok (dN (L.getD (p.getD i 0) 0)) h := fun h => by rw [← aI i hi]; exact ixD_N (by omega)
          have a4 : ∀ h, ixD (I.map dN) ((i + 1 + t : Nat) : Int) h = .ok (dN (L.getD (p.getD (i + 1 + t) 0) 0)) h := fun h => by rw [← aI _ ht]; exact ixD_N (by omega)
          unfold brk
          generalize (h ++ [AO.lst (I.map dN)]) = H at *
          generalize L.getD (p.getD (i + 1 + t) 0) 0 = v2 at *
          generalize L.getD (p.getD i 0) 0 = v1 at *
          generalize L.getD (i + 1 + t) 0 = u2 at *
          generalize L.getD i 0 = u1 at *
          generalize hj : i + 1 + t = j at *
          generalize L.map dN = Ld at *
          generalize I.map dN = Id at *
          simp only [dN] at a1 a2 a3 a4
          have f3 : Fits 3 := fits (by decide)
          refine ⟨fun q => ⟨[some (.tup Ld), x1, some (dN n), some (dN k), some (dC p), some (.ref h.length), some (dN i), some (dN j), none], H, ?_, _, rfl, rfl⟩, fun q => ⟨H, ?_, rfl⟩⟩
          · by_cases c : u1 = u2
            · subst c
              have d : v1 = v2 := by simpa using q
              subst d
              simp [lb_broken_3, dN, hg, a1, a2, a3, a4]
            · simp [lb_broken_3, dN, hg, a1, a2, a3, a4, c]
          · have q : u1 = u2 ∧ ¬ v1 = v2 := by simpa using q
            obtain ⟨rfl, d⟩ := q
            simp [lb_broken_3, dN, hg, a1, a2, a3, a4, d, d3, f3])
      have sf : ∀ e : AE, e = [some (.tup (L.map dN)), x1, some (dN n), some (dN k), some (dC p), some (.ref h.length), some (dN i), y7, none] → lb_broken_2 e (h ++ [.lst (I.map dN)]) = sLoop (gVar 7) lb_broken_3 ((List.range (n - (i + 1))).map fun t => dN (i + 1 + t)) e (h ++ [.lst (I.map dN)]) := by
        rintro e rfl
        unfold lb_broken_2
        exact sFor_range2 (by simp [dN]) (by omega) (by omega)
      have sg : (onlyNx (gVar 6 (dN i) [some (.tup (L.map dN)), x1, some (dN n), some (dN k), some (dC p), some (.ref h.length), y6, y7, none] (h ++ [.lst (I.map dN)]))).then lb_broken_2 = sLoop (gVar 7) lb_broken_3 ((List.range (n - (i + 1))).map fun t => dN (i + 1 + t)) [some (.tup (L.map dN)), x1, some (dN n), some (dN k), some (dC p), some (.ref h.length), some (dN i), y7, none] (h ++ [.lst (I.map dN)]) := sf _ rfl
      rw [sg]
      obtain ⟨u1, u2⟩ := i1
      refine ⟨fun z => ?_, fun y z => u2 y z⟩
      obtain ⟨e', h', w, y7, rfl, rfl⟩ := u1 z
      exact ⟨_, _, w, some (dN i), y7, rfl, rfl⟩)
  have r1 : RgB (n : Int) := rgB_nat (by omega)
  have rz := rg_zero n
  refine ⟨fun z => ?_, fun y z => ?_⟩
  · obtain ⟨e', h', w, y6, y7, rfl, rfl⟩ := t1 z
    refine ⟨some (.ref h.length), y6, y7, ?_⟩
    generalize h ++ [AO.lst (I.map dN)] = H at *
    simp [lb_broken_1, lc, dN, r1, rz] at w ⊢
    exact w
  · obtain ⟨h', w, rfl⟩ := t2 y z
    generalize h ++ [AO.lst (I.map dN)] = H at *
    simp [lb_broken_1, lc, dN, r1, rz] at w ⊢
    exact w
end Law

set_option maxHeartbeats 1000000
/-! broken, the law's first break -/
namespace Law
open PySem Rf L2
def optD : Option (Nat × Nat × Nat) → D
  | none => .non
  | some y => d3 y
theorem broken_spec {L : List Nat} {n : Nat} (lL : L.length = n) (hn : n ≤ 1000) {ps : List (List Nat)} (hp : ∀ p ∈ ps, IsP n p) {h : AH} :
    c_broken [.tup (L.map dN), .tup (ps.map dC)] h = .ok (optD (brA L ps)) h := by
  obtain ⟨t1, t2⟩ := loop_find (φ := fun k => .tup [dN k, dC (ps.getD k [])]) (g := Rf.gTup 2 (Rf.gCons (gVar 3) (Rf.gCons (gVar 4) gNils))) (b := lb_broken_1)
    (fun e h' => ∃ x3 x4 x5 x6 x7 G, e = [some (.tup (L.map dN)), some (.tup (ps.map dC)), some (dN n), x3, x4, x5, x6, x7, none] ∧ h' = h ++ G) (fun h' => ∃ G, h' = h ++ G) (br1 L ps) d3 (List.range ps.length)
    [some (.tup (L.map dN)), some (.tup (ps.map dC)), some (dN n), none, none, none, none, none, none] h ⟨none, none, none, none, none, [], rfl, by simp⟩ (by
      rintro k hk e h' ⟨x3, x4, x5, x6, x7, G, rfl, rfl⟩
      rw [List.mem_range] at hk
      obtain ⟨u1, u2⟩ := broken_row (k := k) lL (hp _ (getD_mem (d := []) hk)) hn (x1 := some (.tup (ps.map dC))) (x5 := x5) (x6 := x6) (x7 := x7) (h := h ++ G)
      have sg : (onlyNx (Rf.gTup 2 (Rf.gCons (gVar 3) (Rf.gCons (gVar 4) gNils)) (.tup [dN k, dC (ps.getD k [])]) [some (.tup (L.map dN)), some (.tup (ps.map dC)), some (dN n), x3, x4, x5, x6, x7, none] (h ++ G))).then lb_broken_1 = lb_broken_1 [some (.tup (L.map dN)), some (.tup (ps.map dC)), some (dN n), some (dN k), some (dC (ps.getD k [])), x5, x6, x7, none] (h ++ G) := rfl
      rw [sg]
      have eb : br1 L ps k = (List.range n).findSome? (br2 L (ps.getD k []) k) := by unfold br1; rw [lL]
      rw [eb]
      refine ⟨fun z => ?_, fun y z => ⟨_, u2 y z, _, by rw [List.append_assoc]⟩⟩
      obtain ⟨y5, y6, y7, w⟩ := u1 z
      exact ⟨_, _, w, _, _, y5, y6, y7, _, rfl, by rw [List.append_assoc]⟩)
  have en : ∀ e, e = [some (.tup (L.map dN)), some (.tup (ps.map dC)), some (dN n), none, none, none, none, none, none] → sFor (iEnum2 (eVar 1)) (Rf.gTup 2 (Rf.gCons (gVar 3) (Rf.gCons (gVar 4) gNils))) lb_broken_1 e h = sLoop (Rf.gTup 2 (Rf.gCons (gVar 3) (Rf.gCons (gVar 4) gNils))) lb_broken_1 ((List.range ps.length).map fun k => .tup [dN k, dC (ps.getD k [])]) e h := by
    rintro e rfl
    rw [← numD_map dC ps []]
    exact sFor_stat (iEnum2_tup rfl)
  have en := en _ rfl
  have lLd : (L.map dN).length = n := by simp [lL]
  unfold brA
  cases q : (List.range ps.length).findSome? (br1 L ps) with
  | none =>
    obtain ⟨e', h', w, x3, x4, x5, x6, x7, G, rfl, rfl⟩ := t1 q
    rw [w] at en
    have e : c_broken [.tup (L.map dN), .tup (ps.map dC)] h = gc h (.ok .non (h ++ G)) := by
      unfold c_broken fsem
      generalize ps.map dC = pd at *
      generalize L.map dN = Ld at *
      simp only [dN] at en
      simp [m_broken, dN, lLd, en]
    rw [e, gc_app rfl]; rfl
  | some y =>
    obtain ⟨h', w, G, rfl⟩ := t2 y q
    rw [w] at en
    have e : c_broken [.tup (L.map dN), .tup (ps.map dC)] h = gc h (.ok (d3 y) (h ++ G)) := by
      unfold c_broken fsem
      generalize ps.map dC = pd at *
      generalize L.map dN = Ld at *
      simp only [dN] at en
      simp [m_broken, dN, lLd, en]
    rw [e, gc_app rfl]; rfl
theorem first_row {L p : List Nat} {n k : Nat} (lL : L.length = n) (P : IsP n p) (hn : n ≤ 1000) {ps : List (List Nat)} (hk : ps[k]? = some p) {x3 x4 : Option D} {h : AH} :
    (((List.range n).findSome? (br2 L p k) = none → ∃ y3 y4, lb__law_first_break_1 [some (.tup (L.map dN)), some (.tup (ps.map dC)), some (dN k), x3, x4] h = .nx [some (.tup (L.map dN)), some (.tup (ps.map dC)), some (dN k), y3, y4] h) ∧
    ∀ y, (List.range n).findSome? (br2 L p k) = some y → lb__law_first_break_1 [some (.tup (L.map dN)), some (.tup (ps.map dC)), some (dN k), x3, x4] h = .rt (d3 y) h) := by
  have lp := P.len
  have xk : ∀ h, ixD (ps.map dC) (k : Int) h = .ok (.tup (p.map dN)) h := fun h => ixD_map hk
  obtain ⟨t1, t2⟩ := loop_find (φ := dN) (g := gVar 3) (b := lb__law_first_break_2)
    (fun e h' => ∃ y3 y4, e = [some (.tup (L.map dN)), some (.tup (ps.map dC)), some (dN k), y3, y4] ∧ h = h')
    (fun h' => h = h') (br2 L p k) d3 (List.range n) [some (.tup (L.map dN)), some (.tup (ps.map dC)), some (dN k), x3, x4] h ⟨x3, x4, rfl, rfl⟩ (by
      rintro i hi e h' ⟨y3, y4, rfl, rfl⟩
      rw [List.mem_range] at hi
      have i1 := find3 (k := k) lL P hn (b := lb__law_first_break_3) (s := 4) hi
        (fun e h' => ∃ y4, e = [some (.tup (L.map dN)), some (.tup (ps.map dC)), some (dN k), some (dN i), y4] ∧ h = h')
        (fun h' => h = h') [some (.tup (L.map dN)), some (.tup (ps.map dC)), some (dN k), some (dN i), y4] h ⟨y4, rfl, rfl⟩ (by
          rintro t ht e h' ⟨y4, rfl, rfl⟩
          have a1 : ∀ h, ixD (L.map dN) (i : Int) h = .ok (dN (L.getD i 0)) h := fun h => ixD_N (by omega)
          have a2 : ∀ h, ixD (L.map dN) ((i + 1 + t : Nat) : Int) h = .ok (dN (L.getD (i + 1 + t) 0)) h := fun h => ixD_N (by omega)
          have b1 : ∀ h, ixD (p.map dN) (i : Int) h = .ok (dN (p.getD i 0)) h := fun h => ixD_N (by omega)
          have b2 : ∀ h, ixD (p.map dN) ((i + 1 + t : Nat) : Int) h = .ok (dN (p.getD (i + 1 + t) 0)) h := fun h => ixD_N (by omega)
          have a3 : ∀ h, ixD (L.map dN) (p.getD i 0 : Nat) h = .ok (dN (L.getD (p.getD i 0) 0)) h := fun h => ixD_N (by have := P.lt i hi; omega)
          have a4 : ∀ h, ixD (L.map dN) (p.getD (i + 1 + t) 0 : Nat) h = .ok (dN (L.getD (p.getD (i + 1 + t) 0) 0)) h := fun h => ixD_N (by have := P.lt _ ht; omega)
          unfold brk
          generalize L.getD (p.getD (i + 1 + t) 0) 0 = v2 at *
          generalize L.getD (p.getD i 0) 0 = v1 at *
          generalize p.getD (i + 1 + t) 0 = w2 at *
          generalize p.getD i 0 = w1 at *
          generalize L.getD (i + 1 + t) 0 = u2 at *
          generalize L.getD i 0 = u1 at *
          generalize hj : i + 1 + t = j at *
          generalize L.map dN = Ld at *
          generalize p.map dN = pd at *
          generalize ps.map dC = psd at *
          simp only [dN] at a1 a2 a3 a4 b1 b2
          have f3 : Fits 3 := fits (by decide)
          refine ⟨fun q => ⟨[some (.tup Ld), some (.tup psd), some (dN k), some (dN i), some (dN j)], h, ?_, _, rfl, rfl⟩, fun q => ⟨h, ?_, rfl⟩⟩
          · by_cases c : u1 = u2
            · subst c
              have d : v1 = v2 := by simpa using q
              subst d
              simp [lb__law_first_break_3, dN, xk, a1, a2, a3, a4, b1, b2]
            · simp [lb__law_first_break_3, dN, xk, a1, a2, a3, a4, b1, b2, c]
          · have q : u1 = u2 ∧ ¬ v1 = v2 := by simpa using q
            obtain ⟨rfl, d⟩ := q
            simp [lb__law_first_break_3, dN, xk, a1, a2, a3, a4, b1, b2, d, d3, f3])
      have lLd : (L.map dN).length = n := by simp [lL]
      have sg : (onlyNx (gVar 3 (dN i) [some (.tup (L.map dN)), some (.tup (ps.map dC)), some (dN k), y3, y4] h)).then lb__law_first_break_2 = sLoop (gVar 4) lb__law_first_break_3 ((List.range (n - (i + 1))).map fun t => dN (i + 1 + t)) [some (.tup (L.map dN)), some (.tup (ps.map dC)), some (dN k), some (dN i), y4] h := by
        show lb__law_first_break_2 [some (.tup (L.map dN)), some (.tup (ps.map dC)), some (dN k), some (dN i), y4] h = _
        unfold lb__law_first_break_2
        exact sFor_range2 (by simp [dN, lL]) (by omega) (by omega)
      rw [sg]
      obtain ⟨u1, u2⟩ := i1
      refine ⟨fun z => ?_, fun y z => u2 y z⟩
      obtain ⟨e', h', w, y4, rfl, rfl⟩ := u1 z
      exact ⟨_, _, w, some (dN i), y4, rfl, rfl⟩)
  have r1 : RgB (n : Int) := rgB_nat (by omega)
  have rz := rg_zero n
  have lLd : (L.map dN).length = n := by simp [lL]
  refine ⟨fun z => ?_, fun y z => ?_⟩
  · obtain ⟨e', h', w, y3, y4, rfl, rfl⟩ := t1 z
    refine ⟨y3, y4, ?_⟩
    generalize ps.map dC = psd at *
    generalize L.map dN = Ld at *
    simp only [dN] at w
    simp [lb__law_first_break_1, dN, lLd, r1, rz, w]
  · obtain ⟨h', w, rfl⟩ := t2 y z
    generalize ps.map dC = psd at *
    generalize L.map dN = Ld at *
    simp only [dN] at w
    simp [lb__law_first_break_1, dN, lLd, r1, rz, w]
theorem first_break_spec {L : List Nat} {n : Nat} (lL : L.length = n) (hn : n ≤ 1000) {ps : List (List Nat)} (hp : ∀ p ∈ ps, IsP n p) (lp : ps.length ≤ 1000) {h : AH} :
    c__law_first_break [.tup (L.map dN), .tup (ps.map dC)] h = .ok (optD (brA L ps)) h := by
  obtain ⟨t1, t2⟩ := loop_find (φ := dN) (g := gVar 2) (b := lb__law_first_break_1)
    (fun e h' => ∃ x2 x3 x4, e = [some (.tup (L.map dN)), some (.tup (ps.map dC)), x2, x3, x4] ∧ h = h') (fun h' => h = h') (br1 L ps) d3 (List.range ps.length)
    [some (.tup (L.map dN)), some (.tup (ps.map dC)), none, none, none] h ⟨none, none, none, rfl, rfl⟩ (by
      rintro k hk e h' ⟨x2, x3, x4, rfl, rfl⟩
      rw [List.mem_range] at hk
      obtain ⟨u1, u2⟩ := first_row (k := k) lL (hp _ (getD_mem (d := []) hk)) hn (getD_some hk) (x3 := x3) (x4 := x4) (h := h)
      have eb : br1 L ps k = (List.range n).findSome? (br2 L (ps.getD k []) k) := by unfold br1; rw [lL]
      rw [eb]
      refine ⟨fun z => ?_, fun y z => ⟨_, u2 y z, rfl⟩⟩
      obtain ⟨y3, y4, w⟩ := u1 z
      exact ⟨_, _, w, _, y3, y4, rfl, rfl⟩)
  have r1 : RgB (ps.length : Int) := rgB_nat (by omega)
  have rz := rg_zero ps.length
  have lpd : (ps.map dC).length = ps.length := by simp
  unfold brA
  cases q : (List.range ps.length).findSome? (br1 L ps) with
  | none =>
    obtain ⟨e', h', w, x2, x3, x4, rfl, rfl⟩ := t1 q
    have e : c__law_first_break [.tup (L.map dN), .tup (ps.map dC)] h = gc h (.ok .non h) := by
      unfold c__law_first_break fsem
      generalize ps.map dC = pd at *
      generalize L.map dN = Ld at *
      simp [m__law_first_break, lpd, r1, rz, w]
    rw [e, gc_same rfl]; rfl
  | some y =>
    obtain ⟨h', w, rfl⟩ := t2 y q
    have e : c__law_first_break [.tup (L.map dN), .tup (ps.map dC)] h = gc h (.ok (d3 y) h) := by
      unfold c__law_first_break fsem
      generalize ps.map dC = pd at *
      generalize L.map dN = Ld at *
      simp [m__law_first_break, lpd, r1, rz, w]
    rw [e, gc_same rfl]; rfl
theorem breaks_spec {L : List Nat} {n : Nat} (lL : L.length = n) (hn : n ≤ 1000) {ps : List (List Nat)} (hp : ∀ p ∈ ps, IsP n p) (lp : ps.length ≤ 1000) {h : AH} :
    c__law_breaks_hold [.tup (L.map dN), .tup (ps.map dC)] h = .ok (.bl true) h := by
  have a := broken_spec lL hn hp (h := h)
  have b := first_break_spec lL hn hp lp (h := h)
  have e : c__law_breaks_hold [.tup (L.map dN), .tup (ps.map dC)] h = gc h (.ok (.bl true) h) := by
    unfold c__law_breaks_hold fsem
    generalize ps.map dC = pd at *
    generalize L.map dN = Ld at *
    cases q : brA L ps with
    | none =>
      rw [q] at a b
      simp only [optD] at a b
      simp [m__law_breaks_hold, a, b, D.isNon]
    | some y =>
      rw [q] at a b
      have r := row_T (L := [y.1, y.2.1, y.2.2]) (by simp) (h := h)
      simp only [optD, d3] at a b
      simp only [List.map_cons, List.map_nil] at r
      simp [m__law_breaks_hold, a, b, r, D.isNon]
  rw [e, gc_same rfl]
end Law

set_option maxHeartbeats 1000000
/-! the law -/
namespace Law
open PySem Rf L2
theorem mt_len {L M : List Nat} {n : Nat} : (mtL L M n).length = n := by simp [mtL]
theorem mt_canon (L M : List Nat) (n : Nat) : Canon (mtL L M n) := fun j hj => by
  rw [mt_len] at hj
  have at_ : ∀ i, i < n → (mtL L M n).getD i 0 = fst2 L M i := fun i hi => by unfold mtL; rw [map_getD (d := 0) (by simpa using hi)]; simp [hi]
  obtain ⟨a, b, _⟩ := fst2_spec L M j
  rw [at_ j hj, at_ _ (by omega)]
  exact ⟨a, fst2_eq b.1 b.2⟩
theorem jn_canon {L M : List Nat} (CL : Canon L) (CM : Canon M) (l : L.length = M.length) : ∀ i, i ≤ L.length → Canon (jnL L M i)
  | 0, _ => CL
  | i + 1, hi => by
    rw [jnL_succ]
    have c := CM i (by omega)
    exact mrg_canon (jn_canon CL CM l i (by omega)) (by rw [jnL_len]; omega) (by rw [jnL_len]; omega)
theorem ifTake {i N : Nat} {c c2 s : Int} {e : AE} {o : AO} {g : AH} {v : Nat} (e1 : e[1]? = some (some (.ref 0))) (e2 : e[i]? = some (some (dN v))) (B : Bag N o) (hN : N + 2 ≤ 1000000000) (h0 : 0 ≤ c2) (hs : 0 < s) (hs2 : s ≤ 100) :
    ∃ (v' : Nat) (o' : AO), sIf (eOp oEq (eCall (argn 2 c__law_take) (lCons (eVar 1) (lCons (eC (.int 8)) lNil))) (eC (.int c))) (sSet i (eOp oAdd (eC (.int c2)) (eCall (argn 2 c__law_take) (lCons (eVar 1) (lCons (eC (.int s)) lNil))))) sPass e (o :: g) = .nx (e.set i (some (dN v'))) (o' :: g) ∧
      (v' = v ∨ (c2 ≤ v' ∧ v' < c2 + s)) ∧ Bag (N + 2) o' := by
  obtain ⟨d, o1, t1, hd, B1⟩ := take_spec (h := o :: g) (a := 0) (s := 8) rfl B (by omega) (by omega) (by omega)
  obtain ⟨d2, o2, t2, hd2, B2⟩ := take_spec (h := o1 :: g) (a := 0) (s := s) rfl B1 (by omega) hs (by omega)
  simp only [List.set_cons_zero] at t1 t2
  by_cases q : (d : Int) = c
  · refine ⟨(c2 + d2).toNat, o2, ?_, .inr (by omega), B2⟩
    have : dN (c2 + d2).toNat = .int (c2 + d2) := by unfold dN; rw [Int.toNat_of_nonneg (by omega)]
    rw [this]
    simp [e1, t1, t2, q]
  · refine ⟨v, o1, ?_, .inl rfl, B1.mono (by omega)⟩
    rw [set_self e2]
    simp [e1, t1, q]
theorem passIf {m : EM} {a : SM} {e : AE} {h h' : AH} (q : m e h = .ok (.bl true) h') : sIf (eNot (eUn oTruth m)) a sPass e h = .nx e h' := by simp [q]
theorem takeC {s : Int} (hs : 0 < s) (hs2 : s ≤ 100) {e : AE} (e1 : e[1]? = some (some (.ref 0))) {N : Nat} {o : AO} (B : Bag N o) (hN : N + 1 ≤ 1000000000) (g : AH) : ∃ (d : Nat) (o' : AO), eCall (argn 2 c__law_take) (lCons (eVar 1) (lCons (eC (.int s)) lNil)) e (o :: g) = .ok (.int d) (o' :: g) ∧ (d : Int) < s ∧ Bag (N + 1) o' := by
  obtain ⟨d, o1, t1, hd, B1⟩ := take_spec (h := o :: g) (a := 0) (s := s) rfl B (by omega) hs (by omega)
  simp only [List.set_cons_zero] at t1
  exact ⟨d, o1, by simp [e1, t1], hd, B1⟩
/-- a call with a new bag -/
theorem bagC {ns : List Int} (hl : ns.length ≤ 63) {k : Nat} {c : Int} (hc : c = (k : Int)) (hk : k ≤ 100) {F : List D → AH → ER} {s : Nat} {y : D} {e : AE} (e0 : e[0]? = some (some (.rol (ns.map D.int)))) (es : e[s]? = some (some y)) {Pd : D → Prop} (o : AO) (g : AH)
    (q : ∀ (H : AH) (a : Nat) (ob : AO), H[a]? = some ob → Bag 6400 ob → ∃ d o', F [.ref a, y] H = .ok d (H.set a o') ∧ Pd d) :
    ∃ d g', eCall (argn 2 F) (lCons (eCall (argn 2 c__law_bag) (lCons (eVar 0) (lCons (eC (.int c)) lNil))) (lCons (eVar s) lNil)) e (o :: g) = .ok d (o :: g') ∧ Pd d := by
  subst hc
  obtain ⟨ob, eb, B⟩ := bag_spec (h := o :: g) hl hk
  obtain ⟨d, o', w, p⟩ := q (o :: g ++ [ob]) (o :: g).length ob (by simp) B
  refine ⟨d, (g ++ [ob]).set g.length o', ?_, p⟩
  have e2 : ((o :: g) ++ [ob]).set (o :: g).length o' = o :: ((g ++ [ob]).set g.length o') := by simp
  rw [e2] at w
  simp only [dN] at eb
  generalize (o :: g ++ [ob]) = H at *
  generalize (o :: g).length = r at *
  simp [e0, es, eb, w]
theorem perms_law {ns : List Int} (hl : ns.length ≤ 63) {L : List Nat} (C : Canon L) {n : Nat} (lL : L.length = n) (h1 : 1 ≤ n) (hn : n ≤ 30) {m : Nat} (hm : m < 5) {b : Bool} {x1 x2 x4 x5 x8 x9 x10 : Option D} (o : AO) (g : AH) :
    ∃ (ps : List (List Nat)) (g' : AH), lc_law_1 [some (.rol (ns.map D.int)), x1, x2, some (.tup (L.map dN)), x4, x5, some (dN m), some (.bl b), x8, x9, x10] (o :: g) = .ok (.ref (o :: g').length) (o :: g' ++ [.lst (ps.map dC)]) ∧ ps.length = m ∧ ∀ p ∈ ps, IsP n p := by
  obtain ⟨acc, h', w, ps, g', rfl, rfl, lp, hp⟩ := Rf.eLc_inv (φ := dN) (k := 9) (te := (eCall (argn 3 c__law_moving) (lCons (eCall (argn 2 c__law_bag) (lCons (eVar 0) (lCons (eOp oAdd (eC (.int 3)) (eVar 9)) lNil))) (lCons (eVar 3) (lCons (eVar 7) lNil)))))
    (vs := [9]) (e := [some (.rol (ns.map D.int)), x1, x2, some (.tup (L.map dN)), x4, x5, some (dN m), some (.bl b), x8, x9, x10]) (h := o :: g) (h1 := o :: g) (mi := iRange1 (lCons (eVar 6) lNil)) (List.range m) (iRange1_nat rfl (by omega)) (by simp; omega)
    (fun i acc h' => ∃ (ps : List (List Nat)) (g' : AH), acc = ps.map dC ∧ h' = o :: g' ∧ ps.length = i ∧ ∀ p ∈ ps, IsP n p) ⟨[], g, rfl, rfl, rfl, fun p hp => absurd hp (by simp)⟩ (by
      rintro i x acc h' hx ⟨ps, g', rfl, rfl, lp, hp⟩
      have hi : i < m := by have := (List.getElem?_eq_some_iff.mp hx).1; simpa using this
      have ex : x = i := by rw [List.getElem?_range hi] at hx; exact (Option.some.inj hx).symm
      subst ex
      obtain ⟨ob, eb, B⟩ := bag_spec (h := o :: g') hl (k := 3 + x) (by omega)
      obtain ⟨p, o', w, P, _⟩ := moving_spec C lL h1 (by omega) (h := o :: g' ++ [ob]) (a := (o :: g').length) (by simp) B (by omega) b
      have e2 : ((o :: g') ++ [ob]).set (o :: g').length o' = o :: ((g' ++ [ob]).set g'.length o') := by simp
      rw [e2] at w
      refine ⟨dC p, o :: ((g' ++ [ob]).set g'.length o'), ?_, ps ++ [p], _, by simp, rfl, by simp [lp], fun q hq => ?_⟩
      · have c3 : (3 : Int) + (x : Int) = ((3 + x : Nat) : Int) := by omega
        generalize (o :: g' ++ [ob]) = H at *
        generalize (o :: g').length = r at *
        generalize L.map dN = Ld at *
        simp only [dN, ← c3] at eb
        simp [wipeE, dN, eb, w, dC]
      · rcases List.mem_append.mp hq with z | z
        · exact hp q z
        · rw [List.mem_singleton] at z; subst z; exact P)
  refine ⟨ps, g', ?_, by simpa using lp, hp⟩
  unfold lc_law_1
  exact w
end Law

set_option maxHeartbeats 4000000
/-! the law holds -/
namespace Law
open PySem Rf L2
theorem law_true (ns : List Int) (hl : ns.length ≤ 63) : ∃ h', c_law [.rol (ns.map D.int)] [] = .ok (.bl true) h' := by
  obtain ⟨o0, b0, B0⟩ := bag_spec (h := []) hl (k := 0) (by omega)
  obtain ⟨X, hX⟩ : ∃ X, X = D.rol (ns.map D.int) := ⟨_, rfl⟩
  obtain ⟨d1, o1, t1, hd1, B1⟩ := takeC (s := 8) (by omega) (by omega) (e := [some X, some (.ref 0), none, none, none, none, none, none, none, none, none]) rfl B0 (by omega) []
  obtain ⟨n, o2, i2, hn, B2⟩ := ifTake (i := 2) (c := 3) (c2 := 9) (s := 15) (e := [some X, some (.ref 0), some (dN (1 + d1)), none, none, none, none, none, none, none, none]) (v := 1 + d1) (g := []) rfl rfl B1 (by omega) (by omega) (by omega) (by omega)
  have n1 : 1 ≤ n := by omega
  have n2 : n ≤ 23 := by omega
  clear hn
  obtain ⟨dL, g1, p1, L, rfl, lL, CL⟩ := bagC hl (k := 1) (c := 1) rfl (by omega) (F := c__law_partition) (s := 2) (y := dN n) (e := [some X, some (.ref 0), some (dN n), none, none, none, none, none, none, none, none]) (by rw [hX]; rfl) rfl o2 []
    (Pd := fun d => ∃ L : List Nat, d = .tup (L.map dN) ∧ L.length = n ∧ Canon L) (fun H a ob ha hb => by
      obtain ⟨p, o', w, l, c, _⟩ := partition_spec ha hb n1 (by omega) (by omega)
      exact ⟨_, o', w, p, rfl, l, c⟩)
  obtain ⟨dM, g2, p2, M, rfl, lM, CM⟩ := bagC hl (k := 2) (c := 2) rfl (by omega) (F := c__law_partition) (s := 2) (y := dN n) (e := [some X, some (.ref 0), some (dN n), some (.tup (L.map dN)), none, none, none, none, none, none, none]) (by rw [hX]; rfl) rfl o2 g1
    (Pd := fun d => ∃ L : List Nat, d = .tup (L.map dN) ∧ L.length = n ∧ Canon L) (fun H a ob ha hb => by
      obtain ⟨p, o', w, l, c, _⟩ := partition_spec ha hb n1 (by omega) (by omega)
      exact ⟨_, o', w, p, rfl, l, c⟩)
  obtain ⟨kd, o3, t3, hk, B3⟩ := takeC (s := 4) (by omega) (by omega) (e := [some X, some (.ref 0), some (dN n), some (.tup (L.map dN)), some (.tup (M.map dN)), none, none, none, none, none, none]) rfl B2 (by omega) g2
  have mt := fun h => lmeet_spec lL lM (by omega) (h := h)
  obtain ⟨M1, j1, lM1, CM1⟩ : ∃ M1 : List Nat, sIf (eOp oEq (eVar 5) (eC (.int 1))) (sSet 4 (eCall (argn 2 c__law_meet) (lCons (eVar 3) (lCons (eVar 4) lNil)))) sPass [some X, some (.ref 0), some (dN n), some (.tup (L.map dN)), some (.tup (M.map dN)), some (.int kd), none, none, none, none, none] (o3 :: g2) =
      .nx [some X, some (.ref 0), some (dN n), some (.tup (L.map dN)), some (.tup (M1.map dN)), some (.int kd), none, none, none, none, none] (o3 :: g2) ∧ M1.length = n ∧ Canon M1 := by
    by_cases c : (kd : Int) = 1
    · refine ⟨mtL L M n, ?_, mt_len, mt_canon L M n⟩
      generalize (mtL L M n).map dN = A at *
      generalize L.map dN = Ld at *
      generalize M.map dN = Md at *
      simp [c, mt]
    · exact ⟨M, by simp [c], lM, CM⟩
  have jn := fun h => ljoin_spec lL lM1 CM1 (by omega) (h := h)
  obtain ⟨M2, j2, lM2, CM2⟩ : ∃ M2 : List Nat, sIf (eOp oEq (eVar 5) (eC (.int 2))) (sSet 4 (eCall (argn 2 c__law_join) (lCons (eVar 3) (lCons (eVar 4) lNil)))) sPass [some X, some (.ref 0), some (dN n), some (.tup (L.map dN)), some (.tup (M1.map dN)), some (.int kd), none, none, none, none, none] (o3 :: g2) =
      .nx [some X, some (.ref 0), some (dN n), some (.tup (L.map dN)), some (.tup (M2.map dN)), some (.int kd), none, none, none, none, none] (o3 :: g2) ∧ M2.length = n ∧ Canon M2 := by
    by_cases c : (kd : Int) = 2
    · refine ⟨jnL L M1 n, ?_, by rw [jnL_len, lL], jn_canon CL CM1 (by omega) n (by omega)⟩
      generalize (jnL L M1 n).map dN = A at *
      generalize L.map dN = Ld at *
      generalize M1.map dN = Md at *
      simp [c, jn]
    · exact ⟨M1, by simp [c], lM1, CM1⟩
  clear mt jn
  obtain ⟨m, o4, t4, hm, B4⟩ := takeC (s := 5) (by omega) (by omega) (e := [some X, some (.ref 0), some (dN n), some (.tup (L.map dN)), some (.tup (M2.map dN)), some (.int kd), none, none, none, none, none]) rfl B3 (by omega) g2
  obtain ⟨bd, o5, t5, hbd, B5⟩ := takeC (s := 2) (by omega) (by omega) (e := [some X, some (.ref 0), some (dN n), some (.tup (L.map dN)), some (.tup (M2.map dN)), some (.int kd), some (.int m), none, none, none, none]) rfl B4 (by omega) g2
  obtain ⟨bl, hbl⟩ : ∃ bl : Bool, ∀ h, oEq (.int (bd : Int)) (.int 1) h = .ok (.bl bl) h := ⟨_, fun h => oEq_N bd 1 h⟩
  obtain ⟨ps, g3, l5, lps, hps⟩ := perms_law hl CL lL n1 (by omega) (m := m) (by omega) (b := bl) (x1 := some (.ref 0)) (x2 := some (dN n)) (x4 := some (.tup (M2.map dN))) (x5 := some (.int kd)) (x8 := none) (x9 := none) (x10 := none) o5 g2
  rw [← hX] at l5
  obtain ⟨E, hE⟩ : ∃ E : AE, E = [some X, some (.ref 0), some (dN n), some (.tup (L.map dN)), some (.tup (M2.map dN)), some (.int kd), some (.int m), some (.bl bl), some (.tup (ps.map dC)), none, none] := ⟨_, rfl⟩
  have E0 : E[0]? = some (some (.rol (ns.map D.int))) := by rw [hE, hX]; rfl
  have E3 : E[3]? = some (some (.tup (L.map dN))) := by rw [hE]; rfl
  have E4 : E[4]? = some (some (.tup (M2.map dN))) := by rw [hE]; rfl
  have E8 : E[8]? = some (some (.tup (ps.map dC))) := by rw [hE]; rfl
  have q1 := fun h => pairs_spec CL CM2 lL lM2 (by omega) (h := h)
  have q9 := fun h => pairs_spec CM2 CL lM2 lL (by omega) (h := h)
  obtain ⟨_, g4, r4, rfl⟩ := bagC hl (k := 7) (c := 7) rfl (by omega) (F := noX c__law_classes_hold) (s := 3) E0 E3 o5 (g3 ++ [AO.lst (ps.map dC)]) (Pd := fun d => d = .bl true) (fun H a ob ha hb => by
    obtain ⟨o', w⟩ := classes_hold_spec CL (by omega) (by omega) ha hb (by omega)
    exact ⟨_, o', by rw [noX_, w]; rfl, rfl⟩)
  obtain ⟨_, g5, r5, rfl⟩ := bagC hl (k := 8) (c := 8) rfl (by omega) (F := noX c__law_classes_hold) (s := 4) E0 E4 o5 g4 (Pd := fun d => d = .bl true) (fun H a ob ha hb => by
    obtain ⟨o', w⟩ := classes_hold_spec CM2 (by omega) (by omega) ha hb (by omega)
    exact ⟨_, o', by rw [noX_, w]; rfl, rfl⟩)
  obtain ⟨_, g6, r6, rfl⟩ := bagC hl (k := 9) (c := 9) rfl (by omega) (F := c__law_tests_hold) (s := 3) E0 E3 o5 g5 (Pd := fun d => d = .bl true) (fun H a ob ha hb => by
    obtain ⟨o', w⟩ := tests_hold_spec lL n1 (by omega) ha hb (by omega)
    exact ⟨_, o', w, rfl⟩)
  obtain ⟨_, g7, r7, rfl⟩ := bagC hl (k := 10) (c := 10) rfl (by omega) (F := c__law_tests_hold) (s := 4) E0 E4 o5 g6 (Pd := fun d => d = .bl true) (fun H a ob ha hb => by
    obtain ⟨o', w⟩ := tests_hold_spec lM2 n1 (by omega) ha hb (by omega)
    exact ⟨_, o', w, rfl⟩)
  obtain ⟨T, hT⟩ : ∃ T, T = mtL L M2 n := ⟨_, rfl⟩
  have lT : T.length = n := by rw [hT]; exact mt_len
  have mt2 := fun h => lmeet_spec lL lM2 (by omega) (h := h)
  rw [← hT] at mt2
  have brk : ∀ {K : List Nat}, K.length = n → ∀ h, c__law_breaks_hold [.tup (K.map dN), .tup (ps.map dC)] h = .ok (.bl true) h := fun lK h => breaks_spec lK (by omega) hps (by omega)
  have brk2 : ∀ h, c__law_breaks_hold [.tup (L.map dN), .tup ((ps.drop 1).map dC)] h = .ok (.bl true) h := fun h => breaks_spec lL (by omega) (fun p hp => hps p (List.mem_of_mem_drop hp)) (by simp; omega)
  obtain ⟨ds, hds⟩ : ∃ ds, ds = [D.tup (L.map dN), .tup (M2.map dN), .tup (T.map dN)] := ⟨_, rfl⟩
  obtain ⟨e', h', w8, x10, rfl, rfl⟩ := liveL_inv (g := gVar 10) (b := lb_law_1) (r := (o5 :: g7).length) (ds := ds) (e := E) (h := o5 :: g7 ++ [.lst ds])
    (fun i e h' => ∃ x10 : Option D, e = [some X, some (.ref 0), some (dN n), some (.tup (L.map dN)), some (.tup (M2.map dN)), some (.int kd), some (.int m), some (.bl bl), some (.tup (ps.map dC)), none, x10] ∧ h' = o5 :: g7 ++ [.lst ds])
    (by rintro i e h' ⟨x10, rfl, rfl⟩; simp) ⟨none, hE, rfl⟩ (by
      rintro i d e h' hd ⟨x10, rfl, rfl⟩
      have mem := List.mem_of_getElem? hd
      rw [hds] at mem
      have bd : c__law_breaks_hold [d, .tup (ps.map dC)] (o5 :: g7 ++ [.lst ds]) = .ok (.bl true) (o5 :: g7 ++ [.lst ds]) := by
        simp only [List.mem_cons, List.not_mem_nil, or_false] at mem
        rcases mem with rfl | rfl | rfl
        · exact brk lL _
        · exact brk lM2 _
        · exact brk lT _
      refine ⟨[some X, some (.ref 0), some (dN n), some (.tup (L.map dN)), some (.tup (M2.map dN)), some (.int kd), some (.int m), some (.bl bl), some (.tup (ps.map dC)), none, some d], _, ?_, some d, rfl, rfl⟩
      generalize (o5 :: g7 ++ [AO.lst ds]) = H at *
      simp [lb_law_1, bd])
  have key : ∃ h', m_law [some X, none, none, none, none, none, none, none, none, none, none] [] = .rt (.bl true) h' := by
    unfold m_law
    refine sqE (e1 := [some X, some (.ref 0), none, none, none, none, none, none, none, none, none]) (h1 := [o0]) (by
      rw [← hX] at b0
      have b0' : c__law_bag [X, .int 0] [] = .ok (.ref 0) [o0] := b0
      simp [b0']) ?_
    refine sqE (e1 := [some X, some (.ref 0), some (dN (1 + d1)), none, none, none, none, none, none, none, none]) (h1 := [o1]) (by
      have : (1 : Int) + (d1 : Int) = ((1 + d1 : Nat) : Int) := by omega
      simp only [sSet_, eOp_, t1, eC_, then_ok, thenS_ok, oAdd_int, this]
      rfl) ?_
    refine sqE (e1 := [some X, some (.ref 0), some (dN n), none, none, none, none, none, none, none, none]) (h1 := [o2]) i2 ?_
    refine sqE (e1 := [some X, some (.ref 0), some (dN n), some (.tup (L.map dN)), none, none, none, none, none, none, none]) (h1 := o2 :: g1) (by rw [sSet_, p1]; rfl) ?_
    refine sqE (e1 := [some X, some (.ref 0), some (dN n), some (.tup (L.map dN)), some (.tup (M.map dN)), none, none, none, none, none, none]) (h1 := o2 :: g2) (by rw [sSet_, p2]; rfl) ?_
    refine sqE (e1 := [some X, some (.ref 0), some (dN n), some (.tup (L.map dN)), some (.tup (M.map dN)), some (.int kd), none, none, none, none, none]) (h1 := o3 :: g2) (by rw [sSet_, t3]; rfl) ?_
    refine sqE j1 ?_
    refine sqE j2 ?_
    refine sqE (e1 := [some X, some (.ref 0), some (dN n), some (.tup (L.map dN)), some (.tup (M2.map dN)), some (.int kd), some (.int m), none, none, none, none]) (h1 := o4 :: g2) (by rw [sSet_, t4]; rfl) ?_
    refine sqE (e1 := [some X, some (.ref 0), some (dN n), some (.tup (L.map dN)), some (.tup (M2.map dN)), some (.int kd), some (.int m), some (.bl bl), none, none, none]) (h1 := o5 :: g2) (by
      rw [sSet_, eOp_, t5]
      simp only [eC_, then_ok, hbl, thenS_ok]
      rfl) ?_
    refine sqE (e1 := E) (h1 := o5 :: g3 ++ [.lst (ps.map dC)]) (by
      have l5' := l5
      have gl : (o5 :: g3 ++ [AO.lst (ps.map dC)])[(o5 :: g3).length]? = some (.lst (ps.map dC)) := by simp
      rw [hE]
      generalize o5 :: g3 ++ [AO.lst (ps.map dC)] = H at *
      generalize (o5 :: g3).length = r at *
      generalize ps.map dC = pd at *
      generalize L.map dN = Ld at *
      generalize M2.map dN = Md at *
      simp only [dN] at l5
      simp [dN, l5, gl]) ?_
    refine sqE (e1 := E) (h1 := o5 :: (g3 ++ [.lst (ps.map dC)])) (passIf (by
      rw [hE]
      generalize L.map dN = Ld at *
      generalize M2.map dN = Md at *
      simp [q1])) ?_
    refine sqE (passIf r4) ?_
    refine sqE (passIf r5) ?_
    refine sqE (passIf r6) ?_
    refine sqE (passIf r7) ?_
    refine sqE (e1 := [some X, some (.ref 0), some (dN n), some (.tup (L.map dN)), some (.tup (M2.map dN)), some (.int kd), some (.int m), some (.bl bl), some (.tup (ps.map dC)), none, x10]) (h1 := o5 :: g7 ++ [.lst ds]) (by
      have gd : (o5 :: g7 ++ [AO.lst ds])[(o5 :: g7).length]? = some (.lst ds) := by simp
      have mt2' := mt2 (o5 :: g7)
      have f3 : Fits ds.length := fits (by rw [hds]; simp)
      rw [hE] at w8 ⊢
      generalize hH : o5 :: g7 ++ [AO.lst ds] = H at *
      generalize o5 :: g7 = H0 at *
      generalize hr : H0.length = r at *
      generalize T.map dN = Td at *
      generalize L.map dN = Ld at *
      generalize M2.map dN = Md at *
      simp only [sFor_val, eLst_, lCons_, lNil_, eVar_, List.getElem?_cons_succ, List.getElem?_cons_zero, thenL_ok, lrcons_ok, eCall_, lthen_ok]
      rw [argn_ok 2 _ _ _ rfl, mt2']
      simp only [thenL_ok, lrcons_ok, lthen_ok, ← hds, if_pos f3, hH, forV_ref, hr, gd, forO_lst]
      exact w8) ?_
    refine ⟨o5 :: g7 ++ [.lst ds], ?_⟩
    have cd : cutD (ps.map dC) (some 1) none = (ps.drop 1).map dC := by rw [List.map_drop]; exact cutD_from (ps.map dC) 1
    generalize o5 :: g7 ++ [AO.lst ds] = H at *
    generalize ps.map dC = pd at *
    generalize (ps.drop 1).map dC = pd1 at *
    generalize L.map dN = Ld at *
    generalize M2.map dN = Md at *
    simp [cd, brk2, q9]
  obtain ⟨h', key⟩ := key
  have : c_law [.rol (ns.map D.int)] [] = gc [] (.ok (.bl true) h') := by
    rw [← hX]
    show gc [] (outS (m_law [some X, none, none, none, none, none, none, none, none, none, none] [])) = _
    rw [key]; rfl
  obtain ⟨h'', q⟩ := gc_bl (h := []) (h' := h') (b := true)
  exact ⟨h'', this.trans q⟩
end Law

open PySem PySem.W PyProof.Rows
set_option maxHeartbeats 0 in
theorem PySem.Challenge.cw_tumbler_k10_partitions_and_breaks_holds : PySem.Challenge.rw_tumbler_k10_partitions_and_breaks.Holds := by
  w_on; o_law; k_head; (case hw => w_witness2)
  k_fill
  refine Rf.walk_ofG (l := PySem.Challenge.rw_tumbler_k10_partitions_and_breaks) (n := 63) (k := 6) (x := "script") (sp := fun w => Rf.spLaw _ (Rf.noX Law.c_law)) rfl (by decide) rfl ⟨rfl, by decide, by decide⟩ (fun w h Y => PySem.W.kIn_of Y) ?F (fun w H a ns hl O S => Rf.spLaw.start O S (Rf.noX_true (Law.law_true ns hl)))
  case F =>
    intro w mg fa h KX G hmg
    refine' Law.all_mk KX G hmg ?a0 ?l0 ?c0 ?k0 ?a1 ?l1 ?c1 ?k1 ?a2 ?l2 ?c2 ?k2 ?a3 ?l3 ?c3 ?k3 ?a4 ?l4 ?c4 ?k4 ?a5 ?l5 ?c5 ?k5 ?a6 ?l6 ?c6 ?k6 ?a7 ?l7 ?c7 ?k7 ?a8 ?l8 ?c8 ?k8 ?a9 ?l9 ?c9 ?k9 ?a10 ?l10 ?c10 ?k10 ?a11 ?l11 ?c11 ?k11 ?a12 ?l12 ?c12 ?k12 ?a13 ?l13 ?c13 ?k13 ?a14 ?l14 ?c14 ?k14 ?a15 ?l15 ?c15 ?k15 ?a16 ?l16 ?c16 ?k16 ?a17 ?l17 ?c17 ?k17 ?a18 ?l18 ?c18 ?k18 ?a19 ?l19 ?c19 ?k19 ?a20 ?l20 ?c20 ?k20 ?a21 ?l21 ?c21 ?k21 ?a22 ?l22 ?c22 ?k22 ?a23 ?l23 ?c23 ?k23 ?a24 ?l24 ?c24 ?k24 ?a25 ?l25 ?c25 ?k25 ?a26 ?l26 ?c26 ?k26 ?a27 ?l27 ?c27 ?k27 ?a28 ?l28 ?c28 ?k28 ?a29 ?l29 ?c29 ?k29 ?a30 ?l30 ?c30 ?k30 ?a31 ?l31 ?c31 ?k31 ?a32 ?l32 ?c32 ?k32 ?a33 ?l33 ?c33 ?k33 ?a34 ?l34 ?c34 ?k34 ?z0 ?z1 ?z2 ?z3 ?z4 ?z5 ?z6 ?z7 ?z8 ?z9 ?z10 ?z11 ?z12 ?z13 ?z14 ?ea0 ?eb0 ?ec0 ?ed0 ?ee0 ?ef0 ?eg0 ?eh0 ?ei0 ?ej0 ?ek0 ?el0 ?em0 ?eu0 ?en0 ?eo0 ?ep0 ?eq0 ?er0 ?es0 ?et0 ?ev0 ?ew0 ?ex0 ?ey0 ?ez0 ?eA0 ?eB0 ?ya0 ?ya1 ?ya2 ?ya3 ?pa0 ?pb0 ?pb1 ?pb2 ?pb3
    (case a0 => k_is); (case l0 => k_is); (case c0 => k_is); (case k0 => k_is); (case a1 => k_is); (case l1 => k_is); (case c1 => k_is); (case k1 => k_is); (case a2 => k_is); (case l2 => k_is); (case c2 => k_is); (case k2 => k_is); (case a3 => k_is); (case l3 => k_is); (case c3 => k_is); (case k3 => k_is); (case a4 => k_is); (case l4 => k_is); (case c4 => k_is); (case k4 => k_is); (case a5 => k_is); (case l5 => k_is); (case c5 => k_is); (case k5 => k_is); (case a6 => k_is); (case l6 => k_is); (case c6 => k_is); (case k6 => k_is); (case a7 => k_is); (case l7 => k_is); (case c7 => k_is); (case k7 => k_is); (case a8 => k_is); (case l8 => k_is); (case c8 => k_is); (case k8 => k_is); (case a9 => k_is); (case l9 => k_is); (case c9 => k_is); (case k9 => k_is); (case a10 => k_is); (case l10 => k_is); (case c10 => k_is); (case k10 => k_is); (case a11 => k_is); (case l11 => k_is); (case c11 => k_is); (case k11 => k_is); (case a12 => k_is); (case l12 => k_is); (case c12 => k_is); (case k12 => k_is); (case a13 => k_is); (case l13 => k_is); (case c13 => k_is); (case k13 => k_is); (case a14 => k_is); (case l14 => k_is); (case c14 => k_is); (case k14 => k_is); (case a15 => k_is); (case l15 => k_is); (case c15 => k_is); (case k15 => k_is); (case a16 => k_is); (case l16 => k_is); (case c16 => k_is); (case k16 => k_is); (case a17 => k_is); (case l17 => k_is); (case c17 => k_is); (case k17 => k_is); (case a18 => k_is); (case l18 => k_is); (case c18 => k_is); (case k18 => k_is); (case a19 => k_is); (case l19 => k_is); (case c19 => k_is); (case k19 => k_is); (case a20 => k_is); (case l20 => k_is); (case c20 => k_is); (case k20 => k_is); (case a21 => k_is); (case l21 => k_is); (case c21 => k_is); (case k21 => k_is); (case a22 => k_is); (case l22 => k_is); (case c22 => k_is); (case k22 => k_is); (case a23 => k_is); (case l23 => k_is); (case c23 => k_is); (case k23 => k_is); (case a24 => k_is); (case l24 => k_is); (case c24 => k_is); (case k24 => k_is); (case a25 => k_is); (case l25 => k_is); (case c25 => k_is); (case k25 => k_is); (case a26 => k_is); (case l26 => k_is); (case c26 => k_is); (case k26 => k_is); (case a27 => k_is); (case l27 => k_is); (case c27 => k_is); (case k27 => k_is); (case a28 => k_is); (case l28 => k_is); (case c28 => k_is); (case k28 => k_is); (case a29 => k_is); (case l29 => k_is); (case c29 => k_is); (case k29 => k_is); (case a30 => k_is); (case l30 => k_is); (case c30 => k_is); (case k30 => k_is); (case a31 => k_is); (case l31 => k_is); (case c31 => k_is); (case k31 => k_is); (case a32 => k_is); (case l32 => k_is); (case c32 => k_is); (case k32 => k_is); (case a33 => k_is); (case l33 => k_is); (case c33 => k_is); (case k33 => k_is); (case a34 => k_is); (case l34 => k_is); (case c34 => k_is); (case k34 => k_is); (case z0 => k_is); (case z1 => k_is); (case z2 => k_is); (case z3 => k_is); (case z4 => k_is); (case z5 => k_is); (case z6 => k_is); (case z7 => k_is); (case z8 => k_is); (case z9 => k_is); (case z10 => k_is); (case z11 => k_is); (case z12 => k_is); (case z13 => k_is); (case z14 => k_is); (case ea0 => k_is); (case eb0 => k_is); (case ec0 => rfl); (case ed0 => k_is); (case ee0 => k_is); (case ef0 => k_is); (case eg0 => k_is); (case eh0 => k_is); (case ei0 => ks_is); (case ej0 => k_is); (case ek0 => k_is); (case el0 => k_is); (case em0 => k_is); (case eu0 => k_is); (case en0 => k_is); (case eo0 => rfl); (case ep0 => rfl); (case eq0 => k_is); (case er0 => k_is); (case es0 => k_is); (case et0 => k_is); (case ev0 => k_is); (case ew0 => k_is); (case ex0 => k_is); (case ey0 => k_is); (case ez0 => k_is); (case eA0 => k_is); (case eB0 => k_is); (case ya0 => k_is); (case ya1 => k_is); (case ya2 => k_is); (case ya3 => k_is); (case pa0 => kts_exm); (case pb0 => kit_is); (case pb1 => kit_is); (case pb2 => kit_is); (case pb3 => kit_is)
